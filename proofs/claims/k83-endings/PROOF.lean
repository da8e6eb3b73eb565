import PyProof.Rows.All
import Wide.All
import OpenK.AllK
import Wide.FinOn
import HandS.ForMost
import HandS.Exc
import HandS.TryOnly
import HandS.ExcOwn
import HandS.WordsExc
import HandS.Wide
import HandS.IsInst
import HandS.EndBits
import HandS.Conv
import HandS.Style
import HandS.TupAny
import HandS.Evl
import HandS.Walk
import HandS.ExcIs
import HandS.ExcInit
import HandS.ExcField
import HandS.ExcValue
import HandS.SetKeys
import KE.KExcIs
import HandS.Iter
import HandS.Defaults
import HandS.CallSlots
import HandS.More
import PyProof.StrBlock2
import HandS.DictTup
import KE.KDictPairs
import KE.KDictDisplayH
import HandS.SortOrd
import HandS.SortRule
import HandS.TupSets
import KE.KDictCopyH
import HandS.Text
import PySem.Challenge.RW_fewspeak_k83_whole_endings_counted
set_option Elab.async false
set_option linter.all false
set_option maxRecDepth 100000
set_option maxHeartbeats 4000000
namespace Kt
open PySem PySem.Spec PyProof.Rows L2
/-- a def of the top, as it stands behind the top -/
structure DefAt (K : PySem.W.Frag) (mg : Str → Option Value) (x : Str) (st : Stmt) (ps : List Str) : Prop where
  ex : ∃ (f : Addr) (fd : FuncData), Fun K x x st f fd ∧ mg x = some (.ref f) ∧ Binds K fd ps []
/-- a method of the class at C -/
structure MethAt (K : PySem.W.Frag) (C : Addr) (m qual : Str) (st : Stmt) (ps : List Str) : Prop where
  ex : ∃ (f : Addr) (fd : FuncData), Fun K m qual st f fd ∧ Meth K C m f ∧ Binds K fd ps []
structure InitAt (K : PySem.W.Frag) (C : Addr) (qual : Str) (st : Stmt) (ps : List Str) : Prop where
  ex : ∃ (f : Addr) (fd : FuncData), Fun K "__init__" qual st f fd ∧ Mk K C f ∧ Binds K fd ps []
/-- the class that a name of the module holds -/
def cA (mg : Str → Option Value) (x : Str) : Addr := match mg x with | some (.ref a) => a | _ => 0
theorem cA_of {mg : Str → Option Value} {x : Str} {a : Addr} (h : mg x = some (.ref a)) : cA mg x = a := by unfold cA; rw [h]
/-- a def that may be called by its name; a method of the class at C; a class that may be made -/
structure Cal (P : Program) (w : World) (K : PySem.W.Frag) (mg : Str → Option Value) (base : Heap) (k : Nat) (x : Str) (sp : Sp) : Prop where
  ex : ∃ (f : Addr) (fd : FuncData) (ps : List Str), FnOk P w K mg base CX0 k f fd ps sp ∧ mg x = some (.ref f) ∧ PySem.W.keepIn K (.ref f) = true ∧ Binds K fd ps []
structure Met (P : Program) (w : World) (K : PySem.W.Frag) (mg : Str → Option Value) (base : Heap) (k : Nat) (C : Addr) (m : Str) (sp : Sp) : Prop where
  ex : ∃ (f : Addr) (fd : FuncData) (ps : List Str), Cls K C ∧ Meth K C m f ∧ FnOk P w K mg base CX0 k f fd ps sp ∧ Binds K fd ps []
structure Mak (P : Program) (w : World) (K : PySem.W.Frag) (mg : Str → Option Value) (base : Heap) (k : Nat) (x : Str) (C : Addr) (sp : Sp) : Prop where
  ex : ∃ (f : Addr) (fd : FuncData) (ps : List Str), Mk K C f ∧ FnOk P w K mg base CX0 k f fd ps sp ∧ mg x = some (.ref C) ∧ Binds K fd ps []
section
variable {P : Program} {w : World} {K : PySem.W.Frag} {mg : Str → Option Value} {base : Heap}
theorem DefAt.cal {x : Str} {st : Stmt} {N ps : List Str} {k : Nat} {sp : Sp} (d : DefAt K mg x st ps) (S : FnScope N ps (defScope st)) (len : ∀ vs H Q E, sp vs H Q E → vs.length = ps.length)
    (hbody : ∀ (f : Addr) (cdv : Value) (A : Around) (outer : List Env) (s : Shared) (H : Hp) (vs : List V) (Q : VK) (E : XK), Room k (A.deeper (envOfC x (defScope st) s.heap.objs.size f cdv)) → sp vs H Q E →
      ∃ t, PSs (cxOf CX0 P w K mg base N x (defScope st) f cdv A outer s H E).nox (defBody st) t ∧ t { nx := fun _ H' => Q .non H', rt := Q } (start N vs) H) : Cal P w K mg base (k + 1) x sp := by
  obtain ⟨f, fd, F, hm, b⟩ := d.ex
  exact ⟨f, fd, ps, F.ok S len (hbody f), hm, F.kp, b⟩
/-- a def of the top by one more name -/
structure DefAtA (K : PySem.W.Frag) (mg : Str → Option Value) (x nm : Str) (st : Stmt) (ps : List Str) : Prop where
  ex : ∃ (f : Addr) (fd : FuncData), Fun K nm nm st f fd ∧ mg x = some (.ref f) ∧ Binds K fd ps []
theorem DefAtA.cal {x nm : Str} {st : Stmt} {N ps : List Str} {k : Nat} {sp : Sp} (d : DefAtA K mg x nm st ps) (S : FnScope N ps (defScope st)) (len : ∀ vs H Q E, sp vs H Q E → vs.length = ps.length)
    (hbody : ∀ (f : Addr) (cdv : Value) (A : Around) (outer : List Env) (s : Shared) (H : Hp) (vs : List V) (Q : VK) (E : XK), Room k (A.deeper (envOfC nm (defScope st) s.heap.objs.size f cdv)) → sp vs H Q E →
      ∃ t, PSs (cxOf CX0 P w K mg base N nm (defScope st) f cdv A outer s H E).nox (defBody st) t ∧ t { nx := fun _ H' => Q .non H', rt := Q } (start N vs) H) : Cal P w K mg base (k + 1) x sp := by
  obtain ⟨f, fd, F, hm, b⟩ := d.ex
  exact ⟨f, fd, ps, F.ok S len (hbody f), hm, F.kp, b⟩
theorem MethAt.met {C : Addr} {m qual : Str} {st : Stmt} {N ps : List Str} {k : Nat} {sp : Sp} (c : Cls K C) (d : MethAt K C m qual st ps) (S : FnScope N ps (defScope st)) (len : ∀ vs H Q E, sp vs H Q E → vs.length = ps.length)
    (hbody : ∀ (f : Addr) (cdv : Value) (A : Around) (outer : List Env) (s : Shared) (H : Hp) (vs : List V) (Q : VK) (E : XK), Room k (A.deeper (envOfC qual (defScope st) s.heap.objs.size f cdv)) → sp vs H Q E →
      ∃ t, PSs (cxOf CX0 P w K mg base N qual (defScope st) f cdv A outer s H E).nox (defBody st) t ∧ t { nx := fun _ H' => Q .non H', rt := Q } (start N vs) H) : Met P w K mg base (k + 1) C m sp := by
  obtain ⟨f, fd, F, hm, b⟩ := d.ex
  exact ⟨f, fd, ps, c, hm, F.ok S len (hbody f), b⟩
theorem InitAt.mak {x : Str} {C : Addr} {qual : Str} {st : Stmt} {N ps : List Str} {k : Nat} {sp : Sp} (hx : mg x = some (.ref C)) (d : InitAt K C qual st ps) (S : FnScope N ps (defScope st)) (len : ∀ vs H Q E, sp vs H Q E → vs.length = ps.length)
    (hbody : ∀ (f : Addr) (cdv : Value) (A : Around) (outer : List Env) (s : Shared) (H : Hp) (vs : List V) (Q : VK) (E : XK), Room k (A.deeper (envOfC qual (defScope st) s.heap.objs.size f cdv)) → sp vs H Q E →
      ∃ t, PSs (cxOf CX0 P w K mg base N qual (defScope st) f cdv A outer s H E).nox (defBody st) t ∧ t { nx := fun _ H' => Q .non H', rt := Q } (start N vs) H) : Mak P w K mg base (k + 1) x C sp := by
  obtain ⟨f, fd, F, hm, b⟩ := d.ex
  exact ⟨f, fd, ps, hm, F.ok S len (hbody f), hx, b⟩
/-- a def that may raise -/
structure CalX (P : Program) (w : World) (K : PySem.W.Frag) (mg : Str → Option Value) (base : Heap) (k : Nat) (x : Str) (sp : Sp) : Prop where
  ex : ∃ (f : Addr) (fd : FuncData) (ps : List Str), FnOk P w K mg base (L2.CX P w) k f fd ps sp ∧ mg x = some (.ref f) ∧ PySem.W.keepIn K (.ref f) = true ∧ Binds K fd ps []
theorem DefAt.calX {x : Str} {st : Stmt} {N ps : List Str} {k : Nat} {sp : Sp} (d : DefAt K mg x st ps) (S : FnScope N ps (defScope st)) (len : ∀ vs H Q E, sp vs H Q E → vs.length = ps.length)
    (hbody : ∀ (f : Addr) (cdv : Value) (A : Around) (outer : List Env) (s : Shared) (H : Hp) (vs : List V) (Q : VK) (E : XK), Room k (A.deeper (envOfC x (defScope st) s.heap.objs.size f cdv)) → sp vs H Q E →
      ∃ t, PSs (cxOf (L2.CX P w) P w K mg base N x (defScope st) f cdv A outer s H E) (defBody st) t ∧ t { nx := fun _ H' => Q .non H', rt := Q } (start N vs) H) : CalX P w K mg base (k + 1) x sp := by
  obtain ⟨f, fd, F, hm, b⟩ := d.ex
  exact ⟨f, fd, ps, F.okX S len (hbody f), hm, F.kp, b⟩
theorem DefAtA.calX {x nm : Str} {st : Stmt} {N ps : List Str} {k : Nat} {sp : Sp} (d : DefAtA K mg x nm st ps) (S : FnScope N ps (defScope st)) (len : ∀ vs H Q E, sp vs H Q E → vs.length = ps.length)
    (hbody : ∀ (f : Addr) (cdv : Value) (A : Around) (outer : List Env) (s : Shared) (H : Hp) (vs : List V) (Q : VK) (E : XK), Room k (A.deeper (envOfC nm (defScope st) s.heap.objs.size f cdv)) → sp vs H Q E →
      ∃ t, PSs (cxOf (L2.CX P w) P w K mg base N nm (defScope st) f cdv A outer s H E) (defBody st) t ∧ t { nx := fun _ H' => Q .non H', rt := Q } (start N vs) H) : CalX P w K mg base (k + 1) x sp := by
  obtain ⟨f, fd, F, hm, b⟩ := d.ex
  exact ⟨f, fd, ps, F.okX S len (hbody f), hm, F.kp, b⟩
end
section
variable {X : Cx} {k j : Nat} {C : Addr} {x m : Str} {sp : Sp} {p pos apos : Pos} {e o : Expr} {es : List Expr} {ta : TE} {t : TA}
theorem pe_c (c : Cal X.prog X.w X.K X.mg X.base k x sp) (hr : Room j X.A) (hk : k ≤ j) (hg : Gl X x) (ha : PA X (e :: es) t)
    (hdb : (x == ("__debug__" : Str)) = false := by decide) (he : starEach (e :: es) X.env = (false, eval e X.env) :: starEach es X.env := by rfl) (hpl : (backTo pos (starEach es X.env)).any (·.1) = false := by rfl) :
    PE X (.Call (.Name x p) (e :: es) [] pos) (tCall sp [] E0 t) := by
  obtain ⟨f, fd, ps, F, hm, kp, b⟩ := c.ex
  exact pe_call F (hr.mono hk) hg hm kp b .nil pass0 ha hdb he hpl
theorem pe_c0 (c : Cal X.prog X.w X.K X.mg X.base k x sp) (hr : Room j X.A) (hk : k ≤ j) (hg : Gl X x)
    (hdb : (x == ("__debug__" : Str)) = false := by decide) :
    PE X (.Call (.Name x p) [] [] pos) (tCall sp [] E0 tNil) := by
  obtain ⟨f, fd, ps, F, hm, kp, b⟩ := c.ex
  exact pe_call0 F (hr.mono hk) hg hm kp b .nil pass0 hdb
theorem pe_mk (c : Mak X.prog X.w X.K X.mg X.base k x C sp) (hr : Room j X.A) (hk : k + 1 ≤ j) (hg : Gl X x) (ha : PA X (e :: es) t)
    (hdb : (x == ("__debug__" : Str)) = false := by decide) (he : starEach (e :: es) X.env = (false, eval e X.env) :: starEach es X.env := by rfl) (hpl : (backTo pos (starEach es X.env)).any (·.1) = false := by rfl) :
    PE X (.Call (.Name x p) (e :: es) [] pos) (tMake C sp [] E0 t) := by
  obtain ⟨f, fd, ps, M, F, hm, b⟩ := c.ex
  exact pe_make M F (hr.mono hk) hg hm b .nil pass0 ha hdb he hpl
theorem pe_mk0 (c : Mak X.prog X.w X.K X.mg X.base k x C sp) (hr : Room j X.A) (hk : k + 1 ≤ j) (hg : Gl X x)
    (hdb : (x == ("__debug__" : Str)) = false := by decide) : PE X (.Call (.Name x p) [] [] pos) (tMake C sp [] E0 tNil) := by
  obtain ⟨f, fd, ps, M, F, hm, b⟩ := c.ex
  exact pe_make0 M F (hr.mono hk) hg hm b .nil pass0 hdb
theorem pe_mt {pl : Sem Bool} (c : Met X.prog X.w X.K X.mg X.base k C m sp) (hr : Room j X.A) (hk : k ≤ j) (he : PE X o ta) (ha : PA X (e :: es) t)
    (hst : starEach (e :: es) X.env = (false, eval e X.env) :: starEach es X.env := by rfl) (hpl : (backTo pos (starEach es X.env)).any (·.1) = false := by rfl)
    (ht : eval (.Call (.Attribute o m apos) (e :: es) [] pos) X.env = (do
      let ov ← eval o X.env
      standAt apos.atName
      let (f, first) ← holding [ov] (getMethod ov m pl)
      callWith pos f first (backTo pos (starEach (e :: es) X.env)) (backToKw pos (keywordEach [] X.env))) := by rfl) :
    PE X (.Call (.Attribute o m apos) (e :: es) [] pos) (tMeth C m sp [] E0 ta t) := by
  obtain ⟨f, fd, ps, hc, hm, F, b⟩ := c.ex
  exact pe_meth (pl := pl) he hc hm F (hr.mono hk) b .nil pass0 ha hst hpl ht
theorem pe_mt0 {pl : Sem Bool} (c : Met X.prog X.w X.K X.mg X.base k C m sp) (hr : Room j X.A) (hk : k ≤ j) (he : PE X o ta)
    (ht : eval (.Call (.Attribute o m apos) [] [] pos) X.env = (do
      let ov ← eval o X.env
      standAt apos.atName
      let (f, first) ← holding [ov] (getMethod ov m pl)
      callWith pos f first (backTo pos (starEach [] X.env)) (backToKw pos (keywordEach [] X.env))) := by rfl) :
    PE X (.Call (.Attribute o m apos) [] [] pos) (tMeth C m sp [] E0 ta tNil) := by
  obtain ⟨f, fd, ps, hc, hm, F, b⟩ := c.ex
  exact pe_meth0 (pl := pl) he hc hm F (hr.mono hk) b .nil pass0 ht
/-- a call of a def that may raise, where nothing is raised -/
theorem pe_x0 (c : CalX X.prog X.w X.K X.mg X.base k x sp) (hr : Room j X.A) (hk : k ≤ j) (hg : Gl X x) (ha : PA X (e :: es) t)
    (hdb : (x == ("__debug__" : Str)) = false := by decide) (he : starEach (e :: es) X.env = (false, eval e X.env) :: starEach es X.env := by rfl) (hpl : (backTo pos (starEach es X.env)).any (·.1) = false := by rfl) :
    PE X (.Call (.Name x p) (e :: es) [] pos) (tCall sp [] E0 t) := by
  obtain ⟨f, fd, ps, F, hm, kp, b⟩ := c.ex
  exact pe_call F (hr.mono hk) hg hm kp b .nil passL ha hdb he hpl
end
/-- a built-in class as a value -/
theorem pe_ty {X : Cx} {x : Str} {pos : Pos} (n : String) (hg : Gl X x) (hm : X.mg x = none) (hv : bootBuiltins x = some (.type n)) (hn : x ≠ "__name__" := by decide) (hdb : (x == ("__debug__" : Str)) = false := by decide) : PE X (.Name x pos) (tC (.ty n)) :=
  pe_bltn hg hm hv rfl hn hdb
/-- a constant of the module -/
theorem pe_gc {X : Cx} {x : Str} {pos : Pos} {v : V} (hg : Gl X x) (h : ∃ u, X.mg x = some u ∧ RelV v u) (hdb : (x == ("__debug__" : Str)) = false := by decide) : PE X (.Name x pos) (tC v) := by
  obtain ⟨u, h1, h2⟩ := h
  exact pe_glob hg h1 h2 hdb
/-! ### heaps -/
theorem hp_new {H : Hp} {a b : Addr} {o o' : HO} (h : H a = none) (h' : H b = some o') : upd H a o b = some o' := by
  rw [upd_ne (ne_of_none h' h)]; exact h'
theorem hp_same {H H' : Hp} {b : Addr} {o : HO} (e : Same H H') (h : H b = some o) : H' b = some o := e b o h
theorem same_upd {H H' : Hp} {a : Addr} {o : HO} (e : Same H H') (h : H' a = none) : Same H (upd H' a o) := fun b o' q => hp_new h (e b o' q)
theorem same_new {H : Hp} {a : Addr} {o : HO} (h : H a = none) : Same H (upd H a o) := fun b o' q => hp_new h q
theorem cxOf_K {CX : CXT} {P : Program} {w : World} {K : PySem.W.Frag} {mg : Str → Option Value} {base : Heap} {N : List Str} {qual : Str} {scope : Scope} {f : Addr} {cd : Value} {A : Around} {outer : List Env} {s : Shared} {H : Hp} {E : XK} : (cxOf CX P w K mg base N qual scope f cd A outer s H E).nox.K = K := rfl
theorem cxOf_K' {CX : CXT} {P : Program} {w : World} {K : PySem.W.Frag} {mg : Str → Option Value} {base : Heap} {N : List Str} {qual : Str} {scope : Scope} {f : Addr} {cd : Value} {A : Around} {outer : List Env} {s : Shared} {H : Hp} {E : XK} : (cxOf CX P w K mg base N qual scope f cd A outer s H E).K = K := rfl
theorem cxOf_mg {CX : CXT} {P : Program} {w : World} {K : PySem.W.Frag} {mg : Str → Option Value} {base : Heap} {N : List Str} {qual : Str} {scope : Scope} {f : Addr} {cd : Value} {A : Around} {outer : List Env} {s : Shared} {H : Hp} {E : XK} : (cxOf CX P w K mg base N qual scope f cd A outer s H E).nox.mg = mg := rfl
theorem cxOf_mg' {CX : CXT} {P : Program} {w : World} {K : PySem.W.Frag} {mg : Str → Option Value} {base : Heap} {N : List Str} {qual : Str} {scope : Scope} {f : Addr} {cd : Value} {A : Around} {outer : List Env} {s : Shared} {H : Hp} {E : XK} : (cxOf CX P w K mg base N qual scope f cd A outer s H E).mg = mg := rfl
/-- a new tuple, a new list: all that stood stands -/
def NewT (H : Hp) (xs : List V) (Q : VK) : Prop := ∀ p H', H p = none → Same H H' → H' p = some (.tup xs) → Q (.ref p) H'
def NewL (H : Hp) (xs : List V) (Q : VK) : Prop := ∀ p H', H p = none → Same H H' → H' p = some (.lst xs) → Q (.ref p) H'
theorem NewT.at {H : Hp} {xs : List V} {Q : VK} (q : NewT H xs Q) (p : Addr) (h : H p = none) : Q (.ref p) (upd H p (.tup xs)) := q p _ h (same_new h) upd_same
theorem NewL.at {H : Hp} {xs : List V} {Q : VK} (q : NewL H xs Q) (p : Addr) (h : H p = none) : Q (.ref p) (upd H p (.lst xs)) := q p _ h (same_new h) upd_same
theorem NewT.of {H H' : Hp} {xs : List V} {Q : VK} (q : NewT H xs Q) (e : Same H H') : NewT H' xs Q := fun p H2 h s x => q p H2 (e.free h) (e.trans s) x
theorem NewL.of {H H' : Hp} {xs : List V} {Q : VK} (q : NewL H xs Q) (e : Same H H') : NewL H' xs Q := fun p H2 h s x => q p H2 (e.free h) (e.trans s) x
/-! ### readings by name -/
section
variable {X : Cx}
def aAdd (K : PySem.W.Frag) : R2 := fun x y H Q => rI0 (fun i j => .int (i + j)) x y H Q ∨ (∃ i j, x = .str i ∧ y = .str j ∧ i.length + j.length ≤ sizeLine ∧ Q (.str (i ++ j)) H) ∨ rCat x y H Q ∨ rCatA K x y H Q
theorem op_addA : OpR X (binaryOp .Add) (aAdd X.K) := op_add.or (op_add_str.or (op_cat.or op_catA))
def aMul : R2 := fun x y H Q => rI CMulW (fun i j => .int (i * j)) x y H Q ∨ rRep x y H Q
theorem op_mulA : OpR X (binaryOp .Mult) aMul := op_mulW.or op_rep
def aEq (K : PySem.W.Frag) : R2 := fun x y H Q => rEq x y H Q ∨ rEqD K x y H Q
theorem op_eqA {k : Nat} (hr : Room k X.A) : OpR X (compareOp .Eq) (aEq X.K) := op_eq.or (op_eqD hr.units)
def aNe (K : PySem.W.Frag) : R2 := fun x y H Q => rNe x y H Q ∨ rNeD K x y H Q
theorem op_neA {k : Nat} (hr : Room k X.A) : OpR X (compareOp .NotEq) (aNe X.K) := op_ne.or (op_neD hr.units)
def aLe : R2 := fun x y H Q => rI0 (fun i j => .bl (decide (i ≤ j))) x y H Q ∨ ∃ i j, x = .str i ∧ y = .str j ∧ Q (.bl (!decide (j.cps.toList < i.cps.toList))) H
theorem op_leA : OpR X (compareOp .LtE) aLe := op_le.or op_le_str
def aLt : R2 := fun x y H Q => rI0 (fun i j => .bl (decide (i < j))) x y H Q ∨ ∃ i j, x = .str i ∧ y = .str j ∧ Q (.bl (decide (i.cps.toList < j.cps.toList))) H
theorem op_ltA : OpR X (compareOp .Lt) aLt := op_lt.or op_lt_str
def aIn (K : PySem.W.Frag) : R2 := fun x y H Q => (∃ (c : Nat) (z : Str), x = .str ⟨#[c]⟩ ∧ y = .str z ∧ Q (.bl (decide (c ∈ z.cps.toList))) H) ∨ rIn K false x y H Q
theorem op_inA : OpR X (compareOp .In) (aIn X.K) := op_in_sign.or op_in_seq
def aNotIn (K : PySem.W.Frag) : R2 := fun x y H Q => (∃ (c : Nat) (z : Str), x = .str ⟨#[c]⟩ ∧ y = .str z ∧ Q (.bl (!decide (c ∈ z.cps.toList))) H) ∨ rIn K true x y H Q
theorem op_notInA : OpR X (compareOp .NotIn) (aNotIn X.K) := op_notIn_sign.or op_notIn_seq
def aLen (K : PySem.W.Frag) : List V → Hp → VK → Prop := fun xs H Q => (∃ p ys, xs = [.ref p] ∧ (SqL K H p ys ∨ SqT K H p ys) ∧ Q (.int ys.length) H) ∨ (∃ z, xs = [.str z] ∧ z.length ≤ sizeLine ∧ Q (.int z.length) H) ∨ (∃ a kvs, xs = [V.ref a] ∧ H a = some (.dK kvs) ∧ Q (.int kvs.length) H)
theorem call_lenA : CallR X (.builtin "len") (aLen X.K) := call_len_seq.or (call_len_str.or call_lenD)
def aAbs : List V → Hp → VK → Prop := fun xs H Q => ∃ i, xs = [.int i] ∧ Q (.int (if i < 0 then -i else i)) H
theorem call_absA : CallR X (.builtin "abs") aAbs := call_abs
def aMax2 : List V → Hp → VK → Prop := fun xs H Q => ∃ i j, xs = [.int i, .int j] ∧ Q (.int (if j > i then j else i)) H
theorem call_max2A (hc : X.calm = true) : CallR X (.builtin "max") aMax2 := call_max2 hc
def aMin2 : List V → Hp → VK → Prop := fun xs H Q => ∃ i j, xs = [.int i, .int j] ∧ Q (.int (if j < i then j else i)) H
theorem call_min2A (hc : X.calm = true) : CallR X (.builtin "min") aMin2 := call_min2 hc
def aInt1 : List V → Hp → VK → Prop := fun xs H Q => (∃ i, xs = [.int i] ∧ Q (.int i) H) ∨ ∃ k, xs = [.bl k] ∧ Q (.int (if k then 1 else 0)) H
theorem call_int1A : CallR X (.type "int") aInt1 := call_int1
def aStr1 : List V → Hp → VK → Prop := fun xs H Q => ∃ i, xs = [.int i] ∧ i.natAbs.log2 < 1920 ∧ Q (.str (toString i)) H
theorem call_str1A : CallR X (.type "str") aStr1 := call_str_int
def aList1 (K : PySem.W.Frag) : List V → Hp → VK → Prop := fun xs H Q => ∃ p ys, xs = [.ref p] ∧ (SqL K H p ys ∨ SqT K H p ys) ∧ ∀ l, H l = none → Q (.ref l) (upd H l (.lst ys))
theorem call_list1A : CallR X (.type "list") (aList1 X.K) := call_list_of
def aTuple1 (K : PySem.W.Frag) : List V → Hp → VK → Prop := fun xs H Q => ∃ p ys, xs = [.ref p] ∧ ((SqL K H p ys ∧ ∀ l, H l = none → Q (.ref l) (upd H l (.tup ys))) ∨ (SqT K H p ys ∧ Q (.ref p) H))
theorem call_tuple1A : CallR X (.type "tuple") (aTuple1 X.K) := call_tuple_of
def aTru (K : PySem.W.Frag) (ta : TE) : TT := fun σ H Q => ta σ H fun x H' => ∃ k, TruV K x H' k ∧ Q k H'
theorem pt_tru {a : Expr} {ta : TE} (ha : PE X a ta) (he : ∀ whole, isTrue a X.env whole = (do let v ← whole; standAt a.pos; holding [v] (truthy v))) : PT X a (aTru X.K ta) := pt_truth ha he
def aIsN : R2 := fun x y H Q => y = .non ∧ Q (.bl (decide (x = .non))) H
theorem op_isNA : OpR X (compareOp .Is) aIsN := op_isN
def aNotN : R2 := fun x y H Q => y = .non ∧ Q (.bl (!decide (x = .non))) H
theorem op_notNA : OpR X (compareOp .IsNot) aNotN := op_notN
end
/-! ### one step of a reading -/
section
variable {K : PySem.W.Frag} {σ : L2.St} {H : Hp} {N B C : L2.St → Hp → Prop} {R : VK} {t u : TS} {c d : TT} {ta tb te tc : TE} {tr : TA} {Q : VK} {g : TG} {i j : Nat} {v x y : V} {r r' : R2}
theorem L_seq (h : t ⟨u ⟨N, R, B, C⟩, R, B, C⟩ σ H) : tSeq t u ⟨N, R, B, C⟩ σ H := h
theorem L_next (h : N σ H) : tNext ⟨N, R, B, C⟩ σ H := h
theorem L_brk (h : B σ H) : tBreak ⟨N, R, B, C⟩ σ H := h
theorem L_cont (h : C σ H) : tCont ⟨N, R, B, C⟩ σ H := h
theorem L_ret (h : te σ H R) : tRet te ⟨N, R, B, C⟩ σ H := h
theorem L_retN (h : R .non H) : tRetN ⟨N, R, B, C⟩ σ H := h
theorem L_drop (h : te σ H fun _ H1 => N σ H1) : tDrop te ⟨N, R, B, C⟩ σ H := h
theorem L_asg (h : te σ H fun x H1 => g x σ H1 N) : tAsg te g ⟨N, R, B, C⟩ σ H := h
theorem L_gname {Q : L2.St → Hp → Prop} (h : Q (σ.set i (some v)) H) : gName i v σ H Q := h
theorem L_aug {ti : TIp} (hx : σ[i]? = some (some x)) (h : te σ H fun y H1 => ti x y H1 fun z H2 => N (σ.set i (some z)) H2) : tAug i te ti ⟨N, R, B, C⟩ σ H := ⟨x, hx, h⟩
theorem L_ipI {f : Int → Int → Int} {a b : Int} (h : Q (.int (f a b)) H) : ipI f (.int a) (.int b) H Q := ⟨a, b, rfl, rfl, h⟩
theorem L_ifS (h : c σ H fun b H1 => if b = true then t ⟨N, R, B, C⟩ σ H1 else u ⟨N, R, B, C⟩ σ H1) : tIfS c t u ⟨N, R, B, C⟩ σ H := h
theorem L_par (h : tr σ H fun vs H1 => ∃ v w, vs = [v, w] ∧ N ((σ.set i (some v)).set j (some w)) H1) : tPar i j tr ⟨N, R, B, C⟩ σ H := h
theorem L_par3 {l : Nat} (h : tr σ H fun vs H1 => ∃ u v w, vs = [u, v, w] ∧ N (((σ.set i (some u)).set j (some v)).set l (some w)) H1) : tPar3 i j l tr ⟨N, R, B, C⟩ σ H := h
theorem L_vs2 {Q : V → V → Prop} (h : Q x y) : ∃ v w, [x, y] = [v, w] ∧ Q v w := ⟨x, y, rfl, h⟩
theorem L_vs3 {z : V} {Q : V → V → V → Prop} (h : Q x y z) : ∃ u v w, [x, y, z] = [u, v, w] ∧ Q u v w := ⟨x, y, z, rfl, h⟩
theorem L_var (h : σ[i]? = some (some v)) (q : Q v H) : tVar i σ H Q := ⟨v, h, q⟩
theorem L_c (q : Q v H) : tC v σ H Q := q
theorem L_op (h : ta σ H fun x H1 => tb σ H1 fun y H2 => r x y H2 Q) : tOp r ta tb σ H Q := h
theorem L_un {r : V → Hp → VK → Prop} (h : ta σ H fun x H1 => r x H1 Q) : tUn r ta σ H Q := h
theorem L_rU {g : Int → V} {i : Int} (q : Q (g i) H) : rU g (.int i) H Q := ⟨i, rfl, q⟩
theorem L_I0 {g : Int → Int → V} {i j : Int} (q : Q (g i j) H) : rI0 g (.int i) (.int j) H Q := ⟨i, j, rfl, rfl, q⟩
theorem L_I {C : Int → Int → Prop} {g : Int → Int → V} {i j : Int} (hc : C i j) (q : Q (g i j) H) : rI C g (.int i) (.int j) H Q := ⟨i, j, rfl, rfl, hc, q⟩
theorem L_addI {i j : Int} (q : Q (.int (i + j)) H) : aAdd K (.int i) (.int j) H Q := .inl ⟨i, j, rfl, rfl, q⟩
theorem L_addS {a b : Str} (hl : a.length + b.length ≤ sizeLine) (q : Q (.str (a ++ b)) H) : aAdd K (.str a) (.str b) H Q := .inr (.inl ⟨a, b, rfl, rfl, hl, q⟩)
theorem L_addL {a b : Addr} {xs ys : List V} (ha : H a = some (.lst xs)) (hb : H b = some (.lst ys)) (hl : xs.length + ys.length ≤ sizeLine) (q : ∀ p, H p = none → Q (.ref p) (upd H p (.lst (xs ++ ys)))) : aAdd K (.ref a) (.ref b) H Q := .inr (.inr (.inl ⟨a, b, xs, ys, rfl, rfl, ha, hb, hl, q⟩))
theorem L_mulI {i j : Int} (hc : CMulW i j) (q : Q (.int (i * j)) H) : aMul (.int i) (.int j) H Q := .inl ⟨i, j, rfl, rfl, hc, q⟩
theorem L_eqI {i j : Int} (q : Q (.bl (decide (i = j))) H) : aEq K (.int i) (.int j) H Q := .inl ⟨rfl, by rw [show decide (V.int i = V.int j) = decide (i = j) by simp]; exact q⟩
theorem L_eqS {i j : Str} (q : Q (.bl (decide (i = j))) H) : aEq K (.str i) (.str j) H Q := .inl ⟨rfl, by rw [show decide (V.str i = V.str j) = decide (i = j) by simp]; exact q⟩
theorem L_eqB {i j : Bool} (q : Q (.bl (decide (i = j))) H) : aEq K (.bl i) (.bl j) H Q := .inl ⟨rfl, by rw [show decide (V.bl i = V.bl j) = decide (i = j) by simp]; exact q⟩
theorem L_neI {i j : Int} (q : Q (.bl (!decide (i = j))) H) : aNe K (.int i) (.int j) H Q := .inl ⟨rfl, by rw [show decide (V.int i = V.int j) = decide (i = j) by simp]; exact q⟩
theorem L_neS {i j : Str} (q : Q (.bl (!decide (i = j))) H) : aNe K (.str i) (.str j) H Q := .inl ⟨rfl, by rw [show decide (V.str i = V.str j) = decide (i = j) by simp]; exact q⟩
theorem L_eqD {d e : PyData} (hx : Dp K H x d) (hy : Dp K H y e) (sd : SeqAt.shaped d = true) (se : SeqAt.shaped e = true) (q : Q (.bl (PyData.eqv d e)) H) : aEq K x y H Q := .inr ⟨d, e, hx, hy, sd, se, q⟩
theorem L_neD {d e : PyData} (hx : Dp K H x d) (hy : Dp K H y e) (sd : SeqAt.shaped d = true) (se : SeqAt.shaped e = true) (q : Q (.bl (!PyData.eqv d e)) H) : aNe K x y H Q := .inr ⟨d, e, hx, hy, sd, se, q⟩
theorem L_leI {i j : Int} (q : Q (.bl (decide (i ≤ j))) H) : aLe (.int i) (.int j) H Q := .inl ⟨i, j, rfl, rfl, q⟩
theorem L_leS {i j : Str} (q : Q (.bl (!decide (j.cps.toList < i.cps.toList))) H) : aLe (.str i) (.str j) H Q := .inr ⟨i, j, rfl, rfl, q⟩
theorem L_ltI {i j : Int} (q : Q (.bl (decide (i < j))) H) : aLt (.int i) (.int j) H Q := .inl ⟨i, j, rfl, rfl, q⟩
theorem L_isN (q : Q (.bl (decide (x = .non))) H) : aIsN x .non H Q := ⟨rfl, q⟩
theorem L_notN (q : Q (.bl (!decide (x = .non))) H) : aNotN x .non H Q := ⟨rfl, q⟩
theorem L_inC {a : Nat} {z : Str} (q : Q (.bl (decide (a ∈ z.cps.toList))) H) : aIn K (.str ⟨#[a]⟩) (.str z) H Q := .inl ⟨a, z, rfl, rfl, q⟩
theorem L_notInC {a : Nat} {z : Str} (q : Q (.bl (!decide (a ∈ z.cps.toList))) H) : aNotIn K (.str ⟨#[a]⟩) (.str z) H Q := .inl ⟨a, z, rfl, rfl, q⟩
theorem L_fld {f : Str} (h : ta σ H fun x H1 => ∃ a C dx fs v, x = .ref a ∧ H1 a = some (.ins C dx fs) ∧ Cls K C ∧ NoAttr K C f ∧ fs.lookup f = some v ∧ Q v H1) : tFld K ta f σ H Q := h
theorem L_fldv {a C dx : Addr} {fs : List (Str × V)} {f : Str} {Q : V → Prop} (h : H a = some (.ins C dx fs)) (cl : Cls K C) (n : NoAttr K C f) (l : fs.lookup f = some v) (q : Q v) :
    ∃ a' C dx fs v, V.ref a = V.ref a' ∧ H a' = some (.ins C dx fs) ∧ Cls K C ∧ NoAttr K C f ∧ fs.lookup f = some v ∧ Q v := ⟨a, C, dx, fs, v, rfl, h, cl, n, l, q⟩
theorem L_tTest {Q : Bool → Hp → Prop} (h : te σ H fun x H' => ∃ k, x = .bl k ∧ Q k H') : tTest te σ H Q := h
theorem L_tB {Q : Bool → Hp → Prop} (h : te σ H fun x H' => ∃ k, x = .bl k ∧ Q k H') : tB te σ H Q := h
theorem L_k {b : Bool} {Q : Bool → Prop} (q : Q b) : ∃ k, V.bl b = V.bl k ∧ Q k := ⟨b, rfl, q⟩
theorem L_tru {Q : Bool → Hp → Prop} (h : te σ H fun x H' => ∃ k, TruV K x H' k ∧ Q k H') : aTru K te σ H Q := h
theorem L_truB {b : Bool} {Q : Bool → Prop} (q : Q b) : ∃ k, TruV K (.bl b) H k ∧ Q k := ⟨b, rfl, q⟩
theorem L_truI {i : Int} {Q : Bool → Prop} (q : Q (i != 0)) : ∃ k, TruV K (.int i) H k ∧ Q k := ⟨_, rfl, q⟩
theorem L_and {Q : Bool → Hp → Prop} (h : c σ H fun b H1 => if b = true then d σ H1 Q else Q false H1) : tAnd c d σ H Q := h
theorem L_or {Q : Bool → Hp → Prop} (h : c σ H fun b H1 => if b = true then Q true H1 else d σ H1 Q) : tOr c d σ H Q := h
theorem L_not {Q : Bool → Hp → Prop} (h : c σ H fun b H1 => Q (!b) H1) : tNot c σ H Q := h
theorem L_andV (h : ta σ H fun x H1 => ∃ c, x = .bl c ∧ if c = true then tb σ H1 Q else Q (.bl false) H1) : tAndV ta tb σ H Q := h
theorem L_orV (h : ta σ H fun x H1 => ∃ c, x = .bl c ∧ if c = true then Q (.bl true) H1 else tb σ H1 Q) : tOrV ta tb σ H Q := h
theorem L_notV (h : ta σ H fun x H1 => ∃ c, x = .bl c ∧ Q (.bl (!c)) H1) : tNotV ta σ H Q := h
theorem L_ifE (h : c σ H fun b H1 => if b = true then ta σ H1 Q else tb σ H1 Q) : tIf c ta tb σ H Q := h
theorem L_chain (h : ta σ H fun x H1 => tb σ H1 fun y H2 => r x y H2 fun z H3 => ∃ k, z = .bl k ∧ (if k = true then tc σ H3 fun w' H4 => r' y w' H4 Q else Q (.bl false) H3)) : tChain r r' ta tb tc σ H Q := h
theorem L_T {A B : Prop} (a : A) : if true = true then A else B := by rw [if_pos rfl]; exact a
theorem L_F {A B : Prop} (b : B) : if false = true then A else B := by rw [if_neg Bool.false_ne_true]; exact b
theorem L_dT {p : Prop} [Decidable p] {A B : Prop} (h : p) (a : A) : if decide p = true then A else B := by rw [decide_eq_true h]; exact L_T a
theorem L_dF {p : Prop} [Decidable p] {A B : Prop} (h : ¬ p) (b : B) : if decide p = true then A else B := by rw [decide_eq_false h]; exact L_F b
theorem L_d {p : Prop} [Decidable p] {A B : Prop} (a : p → A) (b : ¬ p → B) : if decide p = true then A else B := by
  by_cases h : p
  · exact L_dT h (a h)
  · exact L_dF h (b h)
theorem L_nd {p : Prop} [Decidable p] {A B : Prop} (a : ¬ p → A) (b : p → B) : if (!decide p) = true then A else B := by
  by_cases h : p
  · rw [decide_eq_true h]; exact L_F (b h)
  · rw [decide_eq_false h]; exact L_T (a h)
theorem L_ndT {p : Prop} [Decidable p] {A B : Prop} (h : ¬ p) (a : A) : if (!decide p) = true then A else B := by rw [decide_eq_false h]; exact L_T a
theorem L_ndF {p : Prop} [Decidable p] {A B : Prop} (h : p) (b : B) : if (!decide p) = true then A else B := by rw [decide_eq_true h]; exact L_F b
theorem L_b {k : Bool} {A B : Prop} (a : k = true → A) (b : k = false → B) : if k = true then A else B := by
  cases k with
  | true => exact L_T (a rfl)
  | false => exact L_F (b rfl)
theorem L_nT {A B : Prop} (b : B) : if (!true) = true then A else B := L_F b
theorem L_nF {A B : Prop} (a : A) : if (!false) = true then A else B := L_T a
theorem L_nil {Q : List V → Hp → Prop} (q : Q [] H) : tNil σ H Q := q
theorem L_cons {Q : List V → Hp → Prop} (h : ta σ H fun x H1 => tr σ H1 fun xs H2 => Q (x :: xs) H2) : tCons ta tr σ H Q := h
theorem L_tup (h : tr σ H fun xs H1 => xs.length ≤ sizeLine ∧ ∀ p, H1 p = none → Q (.ref p) (upd H1 p (.tup xs))) : tTup tr σ H Q := h
theorem L_lst (h : tr σ H fun xs H1 => xs.length ≤ sizeLine ∧ ∀ p, H1 p = none → Q (.ref p) (upd H1 p (.lst xs))) : tLst tr σ H Q := h
theorem L_new {n : Nat} {R : Prop} (hl : n ≤ sizeLine) (q : R) : n ≤ sizeLine ∧ R := ⟨hl, q⟩
theorem L_call {sp : Sp} {E : XK} (h : tr σ H fun vs H1 => sp vs H1 Q E) : tCall sp [] E tr σ H Q := by
  unfold tCall
  simp only [List.append_nil]
  exact h
theorem L_cb {r : List V → Hp → VK → Prop} (h : tr σ H fun vs H1 => r vs H1 Q) : tCB r tr σ H Q := h
theorem L_lenL {a : Addr} {xs : List V} (h : SqL K H a xs) (q : Q (.int xs.length) H) : aLen K [.ref a] H Q := .inl ⟨a, xs, rfl, .inl h, q⟩
theorem L_lenT {a : Addr} {xs : List V} (h : SqT K H a xs) (q : Q (.int xs.length) H) : aLen K [.ref a] H Q := .inl ⟨a, xs, rfl, .inr h, q⟩
theorem L_lenS {z : Str} (h : z.length ≤ sizeLine) (q : Q (.int z.length) H) : aLen K [.str z] H Q := .inr (.inl ⟨z, rfl, h, q⟩)
theorem L_abs {i : Int} (q : Q (.int (if i < 0 then -i else i)) H) : aAbs [.int i] H Q := ⟨i, rfl, q⟩
theorem L_max2 {i j : Int} (q : Q (.int (max i j)) H) : aMax2 [.int i, .int j] H Q := ⟨i, j, rfl, by rw [show (if j > i then j else i) = max i j by omega]; exact q⟩
theorem L_min2 {i j : Int} (q : Q (.int (min i j)) H) : aMin2 [.int i, .int j] H Q := ⟨i, j, rfl, by rw [show (if j < i then j else i) = min i j by omega]; exact q⟩
theorem L_int1 {i : Int} (q : Q (.int i) H) : aInt1 [.int i] H Q := .inl ⟨i, rfl, q⟩
theorem L_int1B {k : Bool} (q : Q (.int (if k then 1 else 0)) H) : aInt1 [.bl k] H Q := .inr ⟨k, rfl, q⟩
theorem L_isi {a n : String} {b : Bool} (hx : TyX K H x (.type a)) (hk : kitB a n = some b) (q : Q (.bl b) H) : rIsi K [x, .ty n] H Q := ⟨x, .ty n, .type a, .type n, b, rfl, .ty n, hx, kit_ty hk, q⟩
theorem L_ixL {p : Addr} {xs : List V} {i : Int} (h : SqL K H p xs) (ha : atI xs i = some v) (q : Q v H) : rIx K (.ref p) (.int i) H Q := .inl ⟨p, xs, i, v, rfl, rfl, h, ha, q⟩
theorem L_ixT {p : Addr} {xs : List V} {i : Int} (h : SqT K H p xs) (ha : atI xs i = some v) (q : Q v H) : rIx K (.ref p) (.int i) H Q := .inr (.inl ⟨p, xs, i, v, rfl, rfl, h, ha, q⟩)
theorem L_ixS {z : Str} {i : Int} {a : Nat} (h : z.length ≤ sizeLine) (ha : atI z.cps.toList i = some a) (q : Q (.str ⟨#[a]⟩) H) : rIx K (.str z) (.int i) H Q := .inr (.inr ⟨z, i, a, rfl, rfl, h, ha, q⟩)
theorem L_bm {T : String} {r : V → List V → Hp → VK → Prop} (h : te σ H fun x H1 => tyV K T x H1 ∧ tr σ H1 fun xs H2 => r x xs H2 Q) : tBM K T r te tr σ H Q := h
theorem L_tyL {a : Addr} {xs : List V} {R : Prop} (h : SqL K H a xs) (q : R) : tyV K "list" (.ref a) H ∧ R := ⟨.inl ⟨rfl, xs, h⟩, q⟩
theorem L_app {a : Addr} {xs : List V} (h : H a = some (.lst xs)) (hl : xs.length < sizeLine) (q : Q .non (upd H a (.lst (xs ++ [v])))) : rAppend (.ref a) [v] H Q := ⟨a, xs, v, rfl, rfl, h, hl, q⟩
theorem L_sum {a : Addr} {ns : List Int} (h : SqL K H a (ns.map V.int)) (q : Q (.int ns.sum) H) : rSum K [.ref a] H Q := ⟨a, ns, rfl, h, q⟩
theorem L_while (W : Nat → L2.St → Hp → Prop) (h0 : ∃ m, W m σ H) (hs : ∀ m σ H, W m σ H → c σ H fun b H1 => if b = true then ∃ M : L2.St → Hp → Prop, (∀ σ' H', M σ' H' → ∃ m', m' < m ∧ W m' σ' H') ∧ t ⟨M, R, N, M⟩ σ H1 else N σ H1) : tWhile c t ⟨N, R, B, C⟩ σ H := ⟨W, h0, hs⟩
theorem L_N {W : Nat → L2.St → Hp → Prop} {m : Nat} (h : t ⟨fun σ' H' => ∃ m', m' < m ∧ W m' σ' H', R, N, fun σ' H' => ∃ m', m' < m ∧ W m' σ' H'⟩ σ H) :
    ∃ M : L2.St → Hp → Prop, (∀ σ' H', M σ' H' → ∃ m', m' < m ∧ W m' σ' H') ∧ t ⟨M, R, N, M⟩ σ H := ⟨_, fun _ _ h => h, h⟩
theorem L_cut {Mid : L2.St → Hp → Prop} (h : t ⟨Mid, R, B, C⟩ σ H) (k : ∀ σ' H', Mid σ' H' → u ⟨N, R, B, C⟩ σ' H') : Evl.tCut t u ⟨N, R, B, C⟩ σ H := ⟨Mid, h, k⟩
theorem L_for {wi : TI} (h : wi σ H fun J H1 => ∃ W : Nat → Nat → L2.St → Hp → Prop, (∃ m, W 0 m σ H1) ∧ ∀ i m σ H, W i m σ H →
      (J.stop i H ∧ N σ H) ∨ (J.go i H ∧ ∃ M : L2.St → Hp → Prop, (∀ σ' H', M σ' H' → ∃ m', m' < m ∧ W (i + 1) m' σ' H') ∧ ∀ x H', J.yld i H x H' → g x σ H' fun σ2 H2 => t ⟨M, R, N, M⟩ σ2 H2)) : tFor wi g t ⟨N, R, B, C⟩ σ H := h
theorem L_iRng1 {R : It → Hp → Prop} (h : tr σ H fun vs H1 => ∃ j : Int, vs = [.int j] ∧ -(2 ^ 62) ≤ j ∧ j < 2 ^ 62 ∧ R (Itr 0 j.toNat) H1) : iRng1 tr σ H R := h
theorem L_iRng2 {R : It → Hp → Prop} (h : tr σ H fun vs H1 => ∃ i j : Int, vs = [.int i, .int j] ∧ (-(2 ^ 62) ≤ i ∧ i < 2 ^ 62 ∧ -(2 ^ 62) ≤ j ∧ j < 2 ^ 62) ∧ R (Itr i (j - i).toNat) H1) : iRng2 tr σ H R := h
theorem L_iList {R : It → Hp → Prop} (h : te σ H fun x H1 => ∃ a, x = .ref a ∧ (∃ xs, SqL K H1 a xs) ∧ R (Itl K a) H1) : iList K te σ H R := h
theorem L_iTup {R : It → Hp → Prop} (h : te σ H fun x H1 => ∃ a, x = .ref a ∧ (∃ xs, SqT K H1 a xs) ∧ R (Itt K a) H1) : iTup K te σ H R := h
theorem L_r1 {n : Int} {R : Int → Prop} (h1 : -(2 ^ 62) ≤ n) (h2 : n < 2 ^ 62) (q : R n) : ∃ j : Int, [V.int n] = [V.int j] ∧ -(2 ^ 62) ≤ j ∧ j < 2 ^ 62 ∧ R j := ⟨n, rfl, h1, h2, q⟩
theorem L_r2 {a n : Int} {R : Int → Int → Prop} (h : -(2 ^ 62) ≤ a ∧ a < 2 ^ 62 ∧ -(2 ^ 62) ≤ n ∧ n < 2 ^ 62) (q : R a n) : ∃ i j : Int, [V.int a, V.int n] = [V.int i, V.int j] ∧ (-(2 ^ 62) ≤ i ∧ i < 2 ^ 62 ∧ -(2 ^ 62) ≤ j ∧ j < 2 ^ 62) ∧ R i j := ⟨a, n, rfl, h, q⟩
theorem L_rl {a : Addr} {xs : List V} {R : Addr → Prop} (h : SqL K H a xs) (q : R a) : ∃ b, V.ref a = V.ref b ∧ (∃ xs, SqL K H b xs) ∧ R b := ⟨a, rfl, ⟨xs, h⟩, q⟩
theorem L_rt {a : Addr} {xs : List V} {R : Addr → Prop} (h : SqT K H a xs) (q : R a) : ∃ b, V.ref a = V.ref b ∧ (∃ xs, SqT K H b xs) ∧ R b := ⟨a, rfl, ⟨xs, h⟩, q⟩
end
theorem sz_dec {n : Nat} (h : n ≤ 1000000) : n ≤ sizeLine := Nat.le_trans h (by decide)
theorem sz_lt {n : Nat} (h : n < 1000000) : n < sizeLine := Nat.lt_of_lt_of_le h (by decide)
/-! ### sizes of ints -/
/-- less than n bits -/
def Bd (n : Nat) (i : Int) : Prop := i.natAbs < 2 ^ n
theorem Bd.mono {n m : Nat} {i : Int} (h : Bd n i) (hm : n ≤ m) : Bd m i := Nat.lt_of_lt_of_le h (Nat.pow_le_pow_right (by decide) hm)
theorem Bd.mul {n m : Nat} {i j : Int} (h : Bd n i) (k : Bd m j) : Bd (n + m) (i * j) := wide_lt h k
theorem Bd.add {n m : Nat} {i j : Int} (h : Bd n i) (k : Bd m j) : Bd (max n m + 1) (i + j) := by
  have a := h.mono (Nat.le_max_left n m)
  have b := k.mono (Nat.le_max_right n m)
  unfold Bd at *
  rw [Nat.pow_succ]
  have := Int.natAbs_add_le i j
  omega
theorem Bd.neg {n : Nat} {i : Int} (h : Bd n i) : Bd n (-i) := by unfold Bd at *; rw [Int.natAbs_neg]; exact h
theorem Bd.sub {n m : Nat} {i j : Int} (h : Bd n i) (k : Bd m j) : Bd (max n m + 1) (i - j) := by
  rw [Int.sub_eq_add_neg]; exact h.add k.neg
theorem Bd.cmul {n m : Nat} {i j : Int} (h : Bd n i) (k : Bd m j) (hz : n + m + 2 ≤ 1000000 := by decide) : CMulW i j :=
  wide_mul (h.mono (Nat.le_succ n)) (k.mono (Nat.le_succ m)) (Nat.succ_pos _) (Nat.succ_pos _) (by omega)
theorem Bd.cdiv {n : Nat} {i j : Int} (k : Bd n j) (h : 0 < j) (hz : n + 1 ≤ 9000 := by decide) : CDivW i j := wide_div h (k.mono (Nat.le_succ n)) (Nat.succ_pos _) hz
theorem bd_lit {i : Int} (h : -4294967296 < i ∧ i < 4294967296) : Bd 32 i := by
  unfold Bd
  have : (2 : Nat) ^ 32 = 4294967296 := by decide
  omega
theorem bd_64 {i : Int} (h : -18446744073709551616 < i ∧ i < 18446744073709551616) : Bd 64 i := by
  unfold Bd
  have : (2 : Nat) ^ 64 = 18446744073709551616 := by decide
  omega
/-- an item of the script, or what stands in its place -/
def cellAt (ns : List Int) (k d : Int) : Int := if k < (ns.length : Int) then ns.getD k.toNat 0 else d
theorem cellAt_in {ns : List Int} {k d : Int} (h0 : 0 ≤ k) (h : k < (ns.length : Int)) : atI (ns.map V.int) k = some (V.int (cellAt ns k d)) := by
  obtain ⟨j, rfl⟩ : ∃ j : Nat, k = (j : Int) := ⟨k.toNat, by omega⟩
  have hl : j < ns.length := by omega
  unfold cellAt
  rw [if_pos h]
  refine atI_nat ?_
  rw [List.getElem?_map, List.getElem?_eq_getElem hl]
  simp [List.getD, List.getElem?_eq_getElem hl]
theorem cellAt_out {ns : List Int} {k d : Int} (h : ¬ k < (ns.length : Int)) : cellAt ns k d = d := if_neg h
theorem cellAt_mem {ns : List Int} {k d : Int} (h0 : 0 ≤ k) : cellAt ns k d ∈ ns ∨ cellAt ns k d = d := by
  unfold cellAt
  split
  · rename_i h
    have hl : k.toNat < ns.length := by omega
    left
    simp [List.getD, List.getElem?_eq_getElem hl]
  · exact .inr rfl
theorem _root_.L2.Same.seqT {K : PySem.W.Frag} {H H' : Hp} {a : Addr} {xs : List V} (e : Same H H') (h : SqT K H a xs) : SqT K H' a xs := by
  rcases h with (h | ⟨o, h⟩) | h
  · exact .inl (.inl (e _ _ h))
  · exact .inl (.inr ⟨o, e _ _ h⟩)
  · exact .inr h
/-! ### what is walked: more -/
section
variable {K : PySem.W.Frag} {σ : L2.St} {H : Hp} {te : TE} {tr : TA} {Q : VK} {g : TG} {tt : TT}
theorem L_yes {Q : Bool → Hp → Prop} (q : Q true H) : tYes σ H Q := q
theorem L_iZip {R : It → Hp → Prop} (h : tr σ H fun vs H1 => ∃ a b xs ys, vs = [.ref a, .ref b] ∧ SqL K H1 a xs ∧ SqL K H1 b ys ∧ R (Itz K a b) H1) : iZip K tr σ H R := h
theorem L_iEnum {R : It → Hp → Prop} (h : tr σ H fun vs H1 => ∃ a xs, vs = [.ref a] ∧ SqL K H1 a xs ∧ R (Ite K a) H1) : iEnum K tr σ H R := h
theorem L_iStr {R : It → Hp → Prop} (h : te σ H fun v H1 => ∃ x, v = .str x ∧ R (Its x) H1) : iStr te σ H R := h
theorem L_iRng3 {R : It → Hp → Prop} (h : tr σ H fun vs H1 => ∃ (i j c : Int) (n : Nat), vs = [.int i, .int j, .int c] ∧ RgC i j c n ∧ R (Itc i c n) H1) : iRng3 tr σ H R := h
theorem L_rz {a b : Addr} {xs ys : List V} {R : Addr → Addr → Prop} (h1 : SqL K H a xs) (h2 : SqL K H b ys) (q : R a b) : ∃ a' b' xs ys, [V.ref a, V.ref b] = [.ref a', .ref b'] ∧ SqL K H a' xs ∧ SqL K H b' ys ∧ R a' b' := ⟨a, b, xs, ys, rfl, h1, h2, q⟩
theorem L_re {a : Addr} {xs : List V} {R : Addr → Prop} (h1 : SqL K H a xs) (q : R a) : ∃ a' xs, [V.ref a] = [.ref a'] ∧ SqL K H a' xs ∧ R a' := ⟨a, xs, rfl, h1, q⟩
theorem L_rs {z : Str} {R : Str → Prop} (q : R z) : ∃ x, V.str z = .str x ∧ R x := ⟨z, rfl, q⟩
theorem L_r3 {i j c : Int} {n : Nat} {R : Int → Int → Nat → Prop} (h : RgC i j c n) (q : R i c n) : ∃ (i' j' c' : Int) (n : Nat), [V.int i, V.int j, V.int c] = [.int i', .int j', .int c'] ∧ RgC i' j' c' n ∧ R i' c' n := ⟨i, j, c, n, rfl, h, q⟩
theorem L_lc {wi : TI} {vs : List Nat} (h : wi σ H fun J H1 => ∀ D, H1 D = none → ∃ W : Nat → Nat → Hp → Prop, (∃ m, W 0 m (upd H1 D (.lst []))) ∧ ∀ i m H, W i m H →
  (J.stop i H ∧ Q (.ref D) H) ∨ (J.go i H ∧ ∃ Nx : Hp → Prop, (∀ H', Nx H' → ∃ m', m' < m ∧ W (i + 1) m' H') ∧ ∀ x H', J.yld i H x H' → g x (wipe σ vs) H' fun σ2 H2 => wipe σ2 vs = wipe σ vs ∧ tt σ2 H2 fun b H3 =>
    if b = true then te σ2 H3 fun y H4 => ∃ acc, H4 D = some (.lst acc) ∧ acc.length < sizeLine ∧ Nx (upd H4 D (.lst (acc ++ [y]))) else Nx H3)) : tLc wi g tt te vs σ H Q := h
theorem fm_succ (f : Nat → Option V) (i : Nat) : (List.range (i + 1)).filterMap f = (List.range i).filterMap f ++ (match f i with | some y => [y] | none => []) := by
  rw [List.range_succ, List.filterMap_append]
  cases h : f i <;> simp [h]
theorem fm_len (f : Nat → Option V) (i : Nat) : ((List.range i).filterMap f).length ≤ i := by
  have := List.length_filterMap_le f (List.range i)
  simpa using this
/-- a comprehension whose things are told one by one: f i is what turn i gives, none where its test is false -/
theorem lc_fm {J : It} {n : Nat} {G : Hp → Prop} {Y : Nat → Hp → V → Hp → Prop} (w : L2.Walk J n G Y) {vs : List Nat} {Qd : Addr → Hp → Prop} (f : Nat → Option V) (hn : n ≤ 1000000) (hG : ∀ H', Same H H' → G H')
    (hs : ∀ i x H2 H' (R : V → Hp → Prop) (R' : Hp → Prop), i < n → Same H H2 → Y i H2 x H' → (∀ y H4, f i = some y → Same H2 H4 → R y H4) → (∀ H3, f i = none → Same H2 H3 → R' H3) →
      g x (wipe σ vs) H' fun σ2 H2 => wipe σ2 vs = wipe σ vs ∧ tt σ2 H2 fun b H3 => if b = true then te σ2 H3 R else R' H3)
    (q : ∀ p H', H p = none → Same H H' → H' p = some (.lst ((List.range n).filterMap f)) → Qd p H') :
    ∀ D, H D = none → ∃ W : Nat → Nat → Hp → Prop, (∃ m, W 0 m (upd H D (.lst []))) ∧ ∀ i m H, W i m H →
      (J.stop i H ∧ Qd D H) ∨ (J.go i H ∧ ∃ Nx : Hp → Prop, (∀ H', Nx H' → ∃ m', m' < m ∧ W (i + 1) m' H') ∧ ∀ x H', J.yld i H x H' → g x (wipe σ vs) H' fun σ2 H2 => wipe σ2 vs = wipe σ vs ∧ tt σ2 H2 fun b H3 =>
        if b = true then te σ2 H3 fun y H4 => ∃ acc, H4 D = some (.lst acc) ∧ acc.length < sizeLine ∧ Nx (upd H4 D (.lst (acc ++ [y]))) else Nx H3) := by
  intro D hD
  refine lc_it w (fun i H2 => Same H H2 ∧ H2 D = some (.lst ((List.range i).filterMap f))) ⟨same_new hD, upd_same⟩ (fun i H2 _ p => hG H2 p.1) ?_ (fun H2 p => q D H2 hD p.1 p.2)
  intro i x H2 H' hi ⟨p1, p2⟩ y
  refine hs i x H2 H' _ _ hi p1 y (fun y H4 e s => ?_) (fun H3 e s => ?_)
  · refine ⟨_, s _ _ p2, sz_lt (by have := fm_len f i; omega), ?_, ?_⟩
    · intro b o hb
      rw [upd_ne (ne_of_none hb hD)]
      exact s _ _ (p1 _ _ hb)
    · rw [fm_succ, e]; exact upd_same
  · refine ⟨p1.trans s, ?_⟩
    rw [fm_succ, e, List.append_nil]
    exact s _ _ p2
theorem fm_map {α : Type} (f : Nat → α) (h : α → V) (n : Nat) : (List.range n).filterMap (fun i => some (h (f i))) = ((List.range n).map f).map h := by
  rw [List.map_map]
  induction n with
  | zero => rfl
  | succ n ih => rw [fm_succ (fun i => some (h (f i))), ih, List.range_succ, List.map_append]; rfl
theorem rgC_up {i j c : Int} (hc : 0 < c) (hc2 : c < 1000000) (hi : -1000000000 ≤ i ∧ i ≤ 1000000000) (hj : -1000000000 ≤ j ∧ j ≤ 1000000000) : RgC i j c (if i < j then ((j - i - 1) / c + 1).toNat else 0) := by
  have e : Builtin.Range.rangeSize i j c = ((if i < j then ((j - i - 1) / c + 1).toNat else 0 : Nat) : Int) := by
    unfold Builtin.Range.rangeSize
    rw [if_pos (by omega)]
    split
    · have : 0 ≤ (j - i - 1) / c := Int.ediv_nonneg (by omega) (by omega)
      omega
    · rfl
  refine ⟨by omega, by omega, ?_, e⟩
  unfold Builtin.Range.small
  rw [e]
  have hz : ((if i < j then ((j - i - 1) / c + 1).toNat else 0 : Nat) : Int) * c ≤ 4000000000 ∧ ((if i < j then ((j - i - 1) / c + 1).toNat else 0 : Nat) : Int) ≤ 4000000000 ∧ 0 ≤ ((if i < j then ((j - i - 1) / c + 1).toNat else 0 : Nat) : Int) := by
    split
    · have h0 : 0 ≤ (j - i - 1) / c := Int.ediv_nonneg (by omega) (by omega)
      have h1 : (j - i - 1) / c * c ≤ j - i - 1 := Int.ediv_mul_le _ (by omega)
      have h2 : (j - i - 1) / c ≤ j - i - 1 := Int.ediv_le_self _ (by omega)
      have h3 : (((j - i - 1) / c + 1).toNat : Int) = (j - i - 1) / c + 1 := by omega
      rw [h3, Int.add_mul]
      omega
    · simp
  generalize ((if i < j then ((j - i - 1) / c + 1).toNat else 0 : Nat) : Int) = n at *
  simp only [Builtin.Range.rangeFitsLong, Bool.and_eq_true, Bool.or_eq_true, decide_eq_true_eq, beq_iff_eq]
  refine ⟨by omega, .inr ?_⟩
  rw [if_pos (by omega), Bool.and_eq_true, decide_eq_true_eq, decide_eq_true_eq]
  omega
/-- what making an instance asks -/
def MakeP (C : Addr) (sp : Sp) (E : XK) (vs : List V) (H : Hp) (Q : VK) : Prop := ∀ x dx, H x = none → H dx = none → dx ≠ x → sp (.ref x :: vs) (upd (upd H dx (.own x)) x (.ins C dx [])) (fun v H2 => v = .non ∧ Q (.ref x) H2) E
theorem L_make {C : Addr} {sp : Sp} {E : XK} (h : tr σ H fun vs H1 => MakeP C sp E vs H1 Q) : tMake C sp [] E tr σ H Q := by
  unfold tMake
  simp only [List.append_nil]
  exact h
/-- a new instance: all that stood stands -/
def NewI (H : Hp) (C : Addr) (fs : List (Str × V)) (Q : VK) : Prop := ∀ p H' dx, H p = none → Same H H' → H' p = some (.ins C dx fs) → Q (.ref p) H'
theorem L_gTup {n : Nat} {t : TGs} {a : Addr} {xs : List V} {Q : L2.St → Hp → Prop} (h : SqT K H a xs) (hn : xs.length = n) (q : t xs σ H Q) : gTup K n t (.ref a) σ H Q := ⟨a, xs, rfl, h, hn, q⟩
theorem L_gLst {n : Nat} {t : TGs} {a : Addr} {xs : List V} {Q : L2.St → Hp → Prop} (h : SqL K H a xs) (hn : xs.length = n) (q : t xs σ H Q) : gLst K n t (.ref a) σ H Q := ⟨a, xs, rfl, h, hn, q⟩
theorem L_gCons {v : V} {r : List V} {t : TG} {u : TGs} {Q : L2.St → Hp → Prop} (q : t v σ H fun σ' H' => u r σ' H' Q) : gCons t u (v :: r) σ H Q := ⟨v, r, rfl, q⟩
theorem L_gNil {Q : L2.St → Hp → Prop} (q : Q σ H) : gNil [] σ H Q := ⟨rfl, q⟩
theorem L_sub {to ti : TE} {t : TSet} {v : V} {Q : L2.St → Hp → Prop} (h : to σ H fun o H1 => ti σ H1 fun i H2 => t o i v H2 fun H3 => Q σ H3) : gSub to ti t v σ H Q := h
theorem L_setL {p : Addr} {xs : List V} {k : Int} {j : Nat} {v : V} {Q : Hp → Prop} (h : H p = some (.lst xs)) (hj : ixN xs.length k = some j) (q : Q (upd H p (.lst (xs.set j v)))) : rSetL (.ref p) (.int k) v H Q := ⟨p, xs, k, j, rfl, rfl, h, hj, q⟩
theorem ixN_of {n : Nat} {k : Int} (h0 : 0 ≤ k) (h : k < n) : ixN n k = some k.toNat := by
  unfold ixN
  rw [if_pos h0, if_pos h]
theorem L_sFld {f : Str} {ta tv : TE} {N B C' : L2.St → Hp → Prop} {R : VK} (h : tv σ H fun y H1 => ta σ H1 fun x H2 => ∃ a C dx fs, x = .ref a ∧ H2 a = some (.ins C dx fs) ∧ Cls K C ∧ NoAttr K C f ∧ fs.length < 1000 ∧ N σ (upd H2 a (.ins C dx (putF f y fs)))) : sFld K ta tv f ⟨N, R, B, C'⟩ σ H := h
theorem L_sFldv {a C dx : Addr} {fs : List (Str × V)} {f : Str} {Q : Addr → Addr → Addr → List (Str × V) → Prop} (h : H a = some (.ins C dx fs)) (cl : Cls K C) (n : NoAttr K C f) (l : fs.length < 1000) (q : Q a C dx fs) :
    ∃ a' C dx fs, V.ref a = V.ref a' ∧ H a' = some (.ins C dx fs) ∧ Cls K C ∧ NoAttr K C f ∧ fs.length < 1000 ∧ Q a' C dx fs := ⟨a, C, dx, fs, rfl, h, cl, n, l, q⟩
theorem L_repL {a : Addr} {xs : List V} {k : Int} (h : H a = some (.lst xs)) (h1 : -(2 ^ 63) ≤ k) (h2 : k < 2 ^ 63) (h3 : xs.length * k.toNat ≤ sizeLine) (q : ∀ p, H p = none → Q (.ref p) (upd H p (.lst (List.replicate k.toNat xs).flatten))) : aMul (.ref a) (.int k) H Q := .inr ⟨a, k, xs, rfl, rfl, h, h1, h2, h3, q⟩
theorem atI_int {xs : List V} {k : Int} {v : V} (h0 : 0 ≤ k) (h : xs[k.toNat]? = some v) : atI xs k = some v := by
  obtain ⟨j, rfl⟩ : ∃ j : Nat, k = (j : Int) := ⟨k.toNat, by omega⟩
  exact atI_nat h
theorem atI_ints {xs : List Int} {k : Int} (h0 : 0 ≤ k) (h : k < xs.length) : atI (xs.map V.int) k = some (.int (xs.getD k.toNat 0)) := by
  refine atI_int h0 ?_
  have hl : k.toNat < xs.length := by omega
  rw [List.getElem?_map, List.getElem?_eq_getElem hl]
  simp [List.getD, List.getElem?_eq_getElem hl]
theorem L_nw {xs : List V} {R : Prop} (q : R) (hl : xs.length ≤ 1000000 := by simp) : xs.length ≤ sizeLine ∧ R := ⟨sz_dec hl, q⟩
end
theorem fm_succ' {α : Type} (f : Nat → Option α) (i : Nat) : (List.range (i + 1)).filterMap f = (List.range i).filterMap f ++ (match f i with | some y => [y] | none => []) := by
  rw [List.range_succ, List.filterMap_append]
  cases h : f i <;> simp [h]
theorem fm_len' {α : Type} (f : Nat → Option α) (i : Nat) : ((List.range i).filterMap f).length ≤ i := by
  have := List.length_filterMap_le f (List.range i)
  simpa using this
/-! ### data as trees -/
mutual
theorem Dp_same {K : PySem.W.Frag} {H H' : Hp} (e : Same H H') : ∀ (d : PyData) {v : V}, Dp K H v d → Dp K H' v d
  | .none, _, h => by cases h; exact .non
  | .bool b, _, h => by cases h; exact .bl b
  | .int i, _, h => by cases h; exact .int i
  | .str x, _, h => by cases h; exact .str x
  | .list ds, _, h => by cases h with | lst hs ha => exact .lst (e.seq hs) (DpAll_same e ds ha)
  | .tuple ds, _, h => by cases h with | tup hs ha => exact .tup (e.seqT hs) (DpAll_same e ds ha)
  | .dict _, _, h => by cases h
theorem DpAll_same {K : PySem.W.Frag} {H H' : Hp} (e : Same H H') : ∀ (ds : List PyData) {vs : List V}, DpAll K H vs ds → DpAll K H' vs ds
  | [], _, h => by cases h; exact .nil
  | d :: ds, _, h => by cases h with | cons h1 h2 => exact .cons (Dp_same e d h1) (DpAll_same e ds h2)
end
section
variable {K : PySem.W.Frag} {H H' : Hp} {v : V} {vs : List V} {d : PyData} {ds : List PyData}
theorem _root_.L2.Dp.same (h : Dp K H v d) (e : Same H H') : Dp K H' v d := Dp_same e d h
theorem _root_.L2.DpAll.same (h : DpAll K H vs ds) (e : Same H H') : DpAll K H' vs ds := DpAll_same e ds h
theorem _root_.L2.DpAll.len : ∀ {ds : List PyData} {vs : List V}, DpAll K H vs ds → vs.length = ds.length
  | [], _, h => by cases h; rfl
  | d :: ds, _, h => by cases h with | cons h1 h2 => rw [List.length_cons, List.length_cons, h2.len]
theorem _root_.L2.DpAll.at : ∀ {ds : List PyData} {vs : List V} {i : Nat}, DpAll K H vs ds → ds[i]? = some d → ∃ v, vs[i]? = some v ∧ Dp K H v d
  | [], _, i, h, e => by simp at e
  | c :: ds, _, 0, h, e => by
    cases h with
    | cons h1 h2 =>
      rename_i v vs
      have : c = d := by simpa using e
      subst this
      exact ⟨v, by simp, h1⟩
  | c :: ds, _, i + 1, h, e => by
    cases h with
    | cons h1 h2 =>
      obtain ⟨v, q1, q2⟩ := h2.at (i := i) (by simpa using e)
      exact ⟨v, by simpa using q1, q2⟩
theorem _root_.L2.DpAll.of : ∀ {ds : List PyData} {vs : List V} {i : Nat}, DpAll K H vs ds → vs[i]? = some v → ∃ d, ds[i]? = some d ∧ Dp K H v d
  | [], _, i, h, e => by cases h; simp at e
  | c :: ds, _, 0, h, e => by
    cases h with
    | cons h1 h2 =>
      rename_i w vs
      have : w = v := by simpa using e
      subst this
      exact ⟨c, by simp, h1⟩
  | c :: ds, _, i + 1, h, e => by
    cases h with
    | cons h1 h2 =>
      obtain ⟨d, q1, q2⟩ := h2.of (i := i) (by simpa using e)
      exact ⟨d, by simpa using q1, q2⟩
theorem _root_.L2.DpAll.app : ∀ {ds es : List PyData} {vs us : List V}, DpAll K H vs ds → DpAll K H us es → DpAll K H (vs ++ us) (ds ++ es)
  | [], _, _, _, h, g => by cases h; exact g
  | d :: ds, _, _, _, h, g => by cases h with | cons h1 h2 => exact .cons h1 (h2.app g)
theorem _root_.L2.DpAll.snoc (h : DpAll K H vs ds) (g : Dp K H v d) : DpAll K H (vs ++ [v]) (ds ++ [d]) := h.app (.cons g .nil)
theorem dp_ints : ∀ (ns : List Int), DpAll K H (ns.map V.int) (ns.map PyData.int)
  | [] => .nil
  | n :: ns => .cons (.int n) (dp_ints ns)
theorem dp_strs : ∀ (ns : List Str), DpAll K H (ns.map V.str) (ns.map PyData.str)
  | [] => .nil
  | n :: ns => .cons (.str n) (dp_strs ns)
theorem of_ints : ∀ {ns : List Int} {vs : List V}, DpAll K H vs (ns.map PyData.int) → vs = ns.map V.int
  | [], _, h => by cases h; rfl
  | n :: ns, _, h => by
    cases h with
    | cons h1 h2 => cases h1; rw [of_ints h2]; rfl
theorem of_strs : ∀ {ns : List Str} {vs : List V}, DpAll K H vs (ns.map PyData.str) → vs = ns.map V.str
  | [], _, h => by cases h; rfl
  | n :: ns, _, h => by
    cases h with
    | cons h1 h2 => cases h1; rw [of_strs h2]; rfl
theorem of_tup (h : Dp K H v (.tuple ds)) : ∃ a xs, v = .ref a ∧ SqT K H a xs ∧ DpAll K H xs ds := by
  cases h with | tup h1 h2 => exact ⟨_, _, rfl, h1, h2⟩
theorem of_lst (h : Dp K H v (.list ds)) : ∃ a xs, v = .ref a ∧ SqL K H a xs ∧ DpAll K H xs ds := by
  cases h with | lst h1 h2 => exact ⟨_, _, rfl, h1, h2⟩
theorem of_int {i : Int} (h : Dp K H v (.int i)) : v = .int i := by cases h; rfl
theorem of_str {i : Str} (h : Dp K H v (.str i)) : v = .str i := by cases h; rfl
theorem of_bl {i : Bool} (h : Dp K H v (.bool i)) : v = .bl i := by cases h; rfl
theorem of_non (h : Dp K H v .none) : v = .non := by cases h; rfl
theorem of_t2 {d e : PyData} (h : Dp K H v (.tuple [d, e])) : ∃ a x y, v = .ref a ∧ SqT K H a [x, y] ∧ Dp K H x d ∧ Dp K H y e := by
  obtain ⟨a, xs, rfl, h1, h2⟩ := of_tup h
  cases h2 with
  | cons p1 p2 => cases p2 with | cons p3 p4 => cases p4; exact ⟨a, _, _, rfl, h1, p1, p3⟩
theorem of_t3 {d e f : PyData} (h : Dp K H v (.tuple [d, e, f])) : ∃ a x y z, v = .ref a ∧ SqT K H a [x, y, z] ∧ Dp K H x d ∧ Dp K H y e ∧ Dp K H z f := by
  obtain ⟨a, xs, rfl, h1, h2⟩ := of_tup h
  cases h2 with
  | cons p1 p2 => cases p2 with | cons p3 p4 => cases p4 with | cons p5 p6 => cases p6; exact ⟨a, _, _, _, rfl, h1, p1, p3, p5⟩
theorem of_t4 {d e f g : PyData} (h : Dp K H v (.tuple [d, e, f, g])) : ∃ a x y z w, v = .ref a ∧ SqT K H a [x, y, z, w] ∧ Dp K H x d ∧ Dp K H y e ∧ Dp K H z f ∧ Dp K H w g := by
  obtain ⟨a, xs, rfl, h1, h2⟩ := of_tup h
  cases h2 with
  | cons p1 p2 => cases p2 with | cons p3 p4 => cases p4 with | cons p5 p6 => cases p6 with | cons p7 p8 => cases p8; exact ⟨a, _, _, _, _, rfl, h1, p1, p3, p5, p7⟩
end
/-- the part of a heap at which P holds -/
noncomputable def rs (P : Addr → Prop) (H : Hp) : Hp := fun a => @ite _ (P a) (Classical.propDecidable _) (H a) none
theorem rs_at {P : Addr → Prop} {H : Hp} {a : Addr} {o : HO} (p : P a) (h : H a = some o) : rs P H a = some o := by unfold rs; rw [if_pos p]; exact h
theorem rs_of {P : Addr → Prop} {H : Hp} {a : Addr} {o : HO} (h : rs P H a = some o) : P a ∧ H a = some o := by
  unfold rs at h
  split at h
  · rename_i p; exact ⟨p, h⟩
  · cases h
theorem rs_same {P P' : Addr → Prop} {H H' : Hp} (h : ∀ a o, P a → H a = some o → P' a ∧ H' a = some o) : Same (rs P H) (rs P' H') := fun a o e => by
  obtain ⟨p, q⟩ := rs_of e
  obtain ⟨p', q'⟩ := h a o p q
  exact rs_at p' q'
theorem rs_sub {P : Addr → Prop} {H : Hp} : Same (rs P H) H := fun a o e => (rs_of e).2
theorem rs_in {P : Addr → Prop} {H H' : Hp} (h : ∀ a o, P a → H a = some o → H' a = some o) : Same (rs P H) H' := fun a o e => h a o (rs_of e).1 (rs_of e).2
theorem rs_all {P : Addr → Prop} {H H' : Hp} (h : ∀ a o, H a = some o → P a ∧ H' a = some o) : Same H (rs P H') := fun a o e => rs_at (h a o e).1 (h a o e).2
/-- a list that changes: what stood ahead of it stands -/
theorem same_mut {H H' : Hp} {a : Addr} {o : HO} (e : Same H H') (h : H a = none) : Same H (upd H' a o) := fun b o' q => by
  rw [upd_ne (fun z => by rw [z, h] at q; cases q)]; exact e b o' q
section
variable {K : PySem.W.Frag} {σ : L2.St} {H : Hp} {g : TG} {tt : TT} {te : TE} {tb : TS} {D : Ends} {x y : V} {Q : VK}
theorem L_rlD {v : V} {ds : List PyData} {R : Addr → Prop} (h : Dp K H v (.list ds)) (q : ∀ a, v = .ref a → R a) : ∃ b, v = V.ref b ∧ (∃ xs, SqL K H b xs) ∧ R b := by
  obtain ⟨a, xs, rfl, h1, h2⟩ := of_lst h
  exact ⟨a, rfl, ⟨xs, h1⟩, q a rfl⟩
/-- for x in a list of data -/
theorem for_dp {a : Addr} {ds : List PyData} (h : Dp K H (.ref a) (.list ds)) (Pv : Nat → L2.St → Hp → Prop) (h0 : Pv 0 σ H) (hG : ∀ i σ' H', i ≤ ds.length → Pv i σ' H' → Same H H')
    (hs : ∀ i d x σ' H', i < ds.length → ds[i]? = some d → Pv i σ' H' → Dp K H' x d → g x σ' H' fun σ2 H2 => tb { D with nx := Pv (i + 1), ct := Pv (i + 1), bk := D.nx } σ2 H2) (hd : ∀ σ' H', Pv ds.length σ' H' → D.nx σ' H') :
    ∃ W : Nat → Nat → L2.St → Hp → Prop, (∃ m, W 0 m σ H) ∧ ∀ i m σ H, W i m σ H →
      ((Itl K a).stop i H ∧ D.nx σ H) ∨ ((Itl K a).go i H ∧ ∃ N : L2.St → Hp → Prop, (∀ σ' H', N σ' H' → ∃ m', m' < m ∧ W (i + 1) m' σ' H') ∧ ∀ x H', (Itl K a).yld i H x H' → g x σ H' fun σ2 H2 => tb { D with nx := N, ct := N, bk := D.nx } σ2 H2) := by
  obtain ⟨a', xs, ea, h1, h2⟩ := of_lst h
  cases ea
  have hl := h2.len
  refine for_it walk_list Pv h0 (fun i σ' H' hi p => (hG i σ' H' (by omega) p).seq h1) (fun i x σ' H' H'' hi p ⟨e1, e2⟩ => ?_) (fun σ' H' p => hd σ' H' (by rw [← hl]; exact p))
  subst e1
  obtain ⟨d, e3, e4⟩ := h2.of e2
  exact hs i d x σ' _ (by omega) e3 p (e4.same (hG i σ' _ (by omega) p))
/-- a comprehension: what turn i gives is told as data, or none; the new list's things stand apart from it -/
theorem lc_dp {J : It} {n : Nat} {G : Hp → Prop} {Y : Nat → Hp → V → Hp → Prop} (w : L2.Walk J n G Y) {vs : List Nat} {Qd : Addr → Hp → Prop} (f : Nat → Option PyData) (hn : n ≤ 1000000) (hG : ∀ H', Same H H' → G H')
    (hs : ∀ i x p H2 H' (R : V → Hp → Prop) (R' : Hp → Prop), i < n → H p = none → Same H H2 → (∃ o, H2 p = some o) → Y i H2 x H' → (∀ y d H4, f i = some d → Same H2 H4 → Dp K (rs (· ≠ p) H4) y d → R y H4) → (∀ H3, f i = none → Same H2 H3 → R' H3) →
      g x (wipe σ vs) H' fun σ2 H2 => wipe σ2 vs = wipe σ vs ∧ tt σ2 H2 fun b H3 => if b = true then te σ2 H3 R else R' H3)
    (q : ∀ p H' vs, H p = none → Same H H' → H' p = some (.lst vs) → DpAll K (rs (· ≠ p) H') vs ((List.range n).filterMap f) → Qd p H') :
    ∀ D, H D = none → ∃ W : Nat → Nat → Hp → Prop, (∃ m, W 0 m (upd H D (.lst []))) ∧ ∀ i m H, W i m H →
      (J.stop i H ∧ Qd D H) ∨ (J.go i H ∧ ∃ Nx : Hp → Prop, (∀ H', Nx H' → ∃ m', m' < m ∧ W (i + 1) m' H') ∧ ∀ x H', J.yld i H x H' → g x (wipe σ vs) H' fun σ2 H2 => wipe σ2 vs = wipe σ vs ∧ tt σ2 H2 fun b H3 =>
        if b = true then te σ2 H3 fun y H4 => ∃ acc, H4 D = some (.lst acc) ∧ acc.length < sizeLine ∧ Nx (upd H4 D (.lst (acc ++ [y]))) else Nx H3) := by
  intro D hD
  refine lc_it w (fun i H2 => Same H H2 ∧ ∃ us, H2 D = some (.lst us) ∧ DpAll K (rs (· ≠ D) H2) us ((List.range i).filterMap f)) ⟨same_new hD, [], upd_same, .nil⟩ (fun i H2 _ p => hG H2 p.1) ?_ (fun H2 ⟨p1, us, p2, p3⟩ => q D H2 us hD p1 p2 p3)
  rintro i x H2 H' hi ⟨p1, us, p2, p3⟩ y
  refine hs i x D H2 H' _ _ hi hD p1 ⟨_, p2⟩ y (fun y d H4 e s dy => ?_) (fun H3 e s => ?_)
  · have e4 : Same (rs (· ≠ D) H2) (rs (· ≠ D) H4) := rs_same fun a o h1 h2 => ⟨h1, s _ _ h2⟩
    have e5 : Same (rs (· ≠ D) H4) (rs (· ≠ D) (upd H4 D (.lst (us ++ [y])))) := rs_same fun a o h1 h2 => ⟨h1, by rw [upd_ne h1]; exact h2⟩
    refine ⟨us, s _ _ p2, sz_lt (by have := p3.len; have := fm_len' f i; omega), same_mut (p1.trans s) hD, _, upd_same, ?_⟩
    rw [fm_succ', e]
    exact ((p3.same e4).same e5).snoc (dy.same e5)
  · refine ⟨p1.trans s, us, s _ _ p2, ?_⟩
    rw [fm_succ', e, List.append_nil]
    exact p3.same (rs_same fun a o h1 h2 => ⟨h1, s _ _ h2⟩)
end
/-! ### defs that may raise -/
structure MetX (P : Program) (w : World) (K : PySem.W.Frag) (mg : Str → Option Value) (base : Heap) (k : Nat) (C : Addr) (m : Str) (sp : Sp) : Prop where
  ex : ∃ (f : Addr) (fd : FuncData) (ps : List Str), Cls K C ∧ Meth K C m f ∧ FnOk P w K mg base (L2.CX P w) k f fd ps sp ∧ Binds K fd ps []
structure MakX (P : Program) (w : World) (K : PySem.W.Frag) (mg : Str → Option Value) (base : Heap) (k : Nat) (x : Str) (C : Addr) (sp : Sp) : Prop where
  ex : ∃ (f : Addr) (fd : FuncData) (ps : List Str), Mk K C f ∧ FnOk P w K mg base (L2.CX P w) k f fd ps sp ∧ mg x = some (.ref C) ∧ Binds K fd ps []
section
variable {P : Program} {w : World} {K : PySem.W.Frag} {mg : Str → Option Value} {base : Heap}
theorem MethAt.metX {C : Addr} {m qual : Str} {st : Stmt} {N ps : List Str} {k : Nat} {sp : Sp} (c : Cls K C) (d : MethAt K C m qual st ps) (S : FnScope N ps (defScope st)) (len : ∀ vs H Q E, sp vs H Q E → vs.length = ps.length)
    (hbody : ∀ (f : Addr) (cdv : Value) (A : Around) (outer : List Env) (s : Shared) (H : Hp) (vs : List V) (Q : VK) (E : XK), Room k (A.deeper (envOfC qual (defScope st) s.heap.objs.size f cdv)) → sp vs H Q E →
      ∃ t, PSs (cxOf (L2.CX P w) P w K mg base N qual (defScope st) f cdv A outer s H E) (defBody st) t ∧ t { nx := fun _ H' => Q .non H', rt := Q } (start N vs) H) : MetX P w K mg base (k + 1) C m sp := by
  obtain ⟨f, fd, F, hm, b⟩ := d.ex
  exact ⟨f, fd, ps, c, hm, F.okX S len (hbody f), b⟩
theorem InitAt.makX {x : Str} {C : Addr} {qual : Str} {st : Stmt} {N ps : List Str} {k : Nat} {sp : Sp} (hx : mg x = some (.ref C)) (d : InitAt K C qual st ps) (S : FnScope N ps (defScope st)) (len : ∀ vs H Q E, sp vs H Q E → vs.length = ps.length)
    (hbody : ∀ (f : Addr) (cdv : Value) (A : Around) (outer : List Env) (s : Shared) (H : Hp) (vs : List V) (Q : VK) (E : XK), Room k (A.deeper (envOfC qual (defScope st) s.heap.objs.size f cdv)) → sp vs H Q E →
      ∃ t, PSs (cxOf (L2.CX P w) P w K mg base N qual (defScope st) f cdv A outer s H E) (defBody st) t ∧ t { nx := fun _ H' => Q .non H', rt := Q } (start N vs) H) : MakX P w K mg base (k + 1) x C sp := by
  obtain ⟨f, fd, F, hm, b⟩ := d.ex
  exact ⟨f, fd, ps, hm, F.okX S len (hbody f), hx, b⟩
end
/-- where no exception is wanted -/
theorem passN {X : Cx} (σ : L2.St) : PassesAt (L2.CX X.prog X.w) X σ ((fun _ => E0) σ) := fun pins H s e s' I c => passL pins σ H s e s' I c
/-- x.m(..), C(..), where what is raised is wished for at the caller's slots -/
def tMethE (C : Addr) (m : Str) (sp : Sp) (E : L2.St → XK) (ta : TE) (t : TA) : TE := fun σ H Q => ta σ H fun x H1 => ∃ a dx fs, x = .ref a ∧ H1 a = some (.ins C dx fs) ∧ fs.lookup m = none ∧ t σ H1 fun vs H2 => sp (x :: vs) H2 Q (E σ)
def tMakeE (C : Addr) (sp : Sp) (E : L2.St → XK) (t : TA) : TE := fun σ H Q => t σ H fun vs H1 => ∀ x dx, H1 x = none → H1 dx = none → dx ≠ x →
  sp (.ref x :: vs) (upd (upd H1 dx (.own x)) x (.ins C dx [])) (fun v H2 => v = .non ∧ Q (.ref x) H2) (E σ)
section
variable {X : Cx} {CX : CXT} {k j : Nat} {f C : Addr} {fd : FuncData} {ps : List Str} {x m : Str} {sp : Sp} {p pos apos : Pos} {e o : Expr} {es : List Expr} {ta : TE} {t : TA} {E : L2.St → XK}
theorem run_makeS {pins : List (Addr × Obj)} {σ : L2.St} {H : Hp} {s : Shared} {Q : VK} {us : List Value} {vs : List V} (M : Mk X.K C f) (F : FnOk X.prog X.w X.K X.mg X.base CX k f fd ps sp) (hr : Room (k + 1) X.A) (hb : Binds X.K fd ps [])
    (hx : PassesAt CX X σ (E σ)) (I : Inv X pins σ H s) (r : Vals vs us)
    (h : ∀ x dx, H x = none → H dx = none → dx ≠ x → sp (.ref x :: vs) (upd (upd H dx (.own x)) x (.ins C dx [])) (fun v H2 => v = .non ∧ Q (.ref x) H2) (E σ)) :
    wpAny (model X.prog X.w) X.A (call (.ref C) us) (EP X pins σ Q) X.xe s := by
  -- the new object's place, its dict's place
  obtain ⟨dn, hdn⟩ : ∃ dn, dn = s.heap.objs.size := ⟨_, rfl⟩
  have fresh1 : H dn = none := I.hok.fresh (Nat.le_of_eq hdn.symm)
  have fresh2 : H (dn + 1) = none := I.hok.fresh (Nat.le_succ_of_le (Nat.le_of_eq hdn.symm))
  have asked := h (dn + 1) dn fresh2 fresh1 (Nat.ne_of_lt (Nat.lt_succ_self _))
  have J := Inv.made (C := C) I
  rw [← hdn] at J
  have args : Vals (V.ref (dn + 1) :: vs) (Value.ref (dn + 1) :: us) := .cons rfl r
  have many : (Value.ref (dn + 1) :: us).length = ps.length := args.length.symm.trans (F.len _ _ _ _ asked)
  have bound := hb _ (Value.ref (dn + 1) :: us) J.kIn (by rw [List.append_nil]; exact many)
  rw [List.append_nil] at bound
  subst hdn
  refine wpAny_call (make_map (f := f) I.kIn M.makes M.init (beq_iff_eq.mp M.fn) ?_)
  refine codeAny_mono (F.run _ X.stack _ _ ⟨_, []⟩ _ _ _ (E σ) (hr.make C us []) (J.env0.make C us []) bound args asked) fun out s' ho => ?_
  match out, ho with
  | .error e, ho => exact hx pins _ _ e s' J ho
  | .ok (.ret u), ho =>
    obtain ⟨v, H', J', rel, hv, rest⟩ := J.after ho
    cases hv
    exact ⟨rel, .ref (s.heap.objs.size + 1), H', J', rfl, rest⟩
  | .ok .next, ho => exact ho.elim
  | .ok .brk, ho => exact ho.elim
  | .ok .cont, ho => exact ho.elim
theorem pe_xS (c : CalX X.prog X.w X.K X.mg X.base k x sp) (hr : Room j X.A) (hk : k ≤ j) (hg : Gl X x) (hx : ∀ σ, PassesAt (L2.CX X.prog X.w) X σ (E σ)) (ha : PA X (e :: es) t)
    (hdb : (x == ("__debug__" : Str)) = false := by decide) (he : starEach (e :: es) X.env = (false, eval e X.env) :: starEach es X.env := by rfl) (hpl : (backTo pos (starEach es X.env)).any (·.1) = false := by rfl) :
    PE X (.Call (.Name x p) (e :: es) [] pos) (tCallS sp E t) := by
  obtain ⟨f, fd, ps, F, hm, kp, b⟩ := c.ex
  exact pe_callS F (hr.mono hk) hg hm kp b hx ha hdb he hpl
theorem pe_xMk (c : MakX X.prog X.w X.K X.mg X.base k x C sp) (hr : Room j X.A) (hk : k + 1 ≤ j) (hg : Gl X x) (hx : ∀ σ, PassesAt (L2.CX X.prog X.w) X σ (E σ)) (ha : PA X (e :: es) t)
    (hdb : (x == ("__debug__" : Str)) = false := by decide) (he : starEach (e :: es) X.env = (false, eval e X.env) :: starEach es X.env := by rfl) (hpl : (backTo pos (starEach es X.env)).any (·.1) = false := by rfl) :
    PE X (.Call (.Name x p) (e :: es) [] pos) (tMakeE C sp E t) := by
  obtain ⟨f, fd, ps, M, F, hm, hb⟩ := c.ex
  refine ⟨fun pins s σ H Q I h => ?_⟩
  refine wpAny_Call_Name_kw (ld_glob I hg hm ?_ hdb)
  refine PySem.W.callWith_K (h₀ := X.base) I.ok.mod.kin M.kp (thn (ha.run pos pins s σ H _ I h) fun us s1 ⟨vs, H1, I1, r, q⟩ => ⟨I1.kIn, ?_⟩) he hpl
  exact run_makeS M F (hr.mono hk) hb (hx σ) I1 r q
theorem pe_xMt {pl : Sem Bool} (c : MetX X.prog X.w X.K X.mg X.base k C m sp) (hr : Room j X.A) (hk : k ≤ j) (hx : ∀ σ, PassesAt (L2.CX X.prog X.w) X σ (E σ)) (he : PE X o ta) (ha : PA X (e :: es) t)
    (hst : starEach (e :: es) X.env = (false, eval e X.env) :: starEach es X.env := by rfl) (hpl : (backTo pos (starEach es X.env)).any (·.1) = false := by rfl)
    (ht : eval (.Call (.Attribute o m apos) (e :: es) [] pos) X.env = (do
      let ov ← eval o X.env
      standAt apos.atName
      let (f, first) ← holding [ov] (getMethod ov m pl)
      callWith pos f first (backTo pos (starEach (e :: es) X.env)) (backToKw pos (keywordEach [] X.env))) := by rfl) :
    PE X (.Call (.Attribute o m apos) (e :: es) [] pos) (tMethE C m sp E ta t) := by
  obtain ⟨f, fd, ps, hc, hm, F, hb⟩ := c.ex
  refine ⟨fun pins s σ H Q I h => ?_⟩
  refine PySem.W.methodCall_KW (pl := pl) (thn (he.run pins s σ H _ I h) fun u s1 ⟨x, H1, I1, rx, a, dx, fs, ex, ea, l, q⟩ => ?_) ht
  subst ex
  obtain rfl : u = Value.ref a := rx
  refine getmeth_ok I1 ea hc hm l ?_
  refine PySem.W.callWith_K (first := [.ref a]) (h₀ := X.base) I.ok.mod.kin hm.kp (thn (ha.run pos pins s1 σ H1 _ I1 q) fun us s2 ⟨vs, H2, I2, r, q2⟩ => ⟨I2.kIn, ?_⟩) hst hpl
  exact run_fnS (us := .ref a :: us) (vs := .ref a :: vs) F (hr.mono hk) hb (hx σ) I2 (.cons rfl r) q2
theorem pe_xMt0 {pl : Sem Bool} (c : MetX X.prog X.w X.K X.mg X.base k C m sp) (hr : Room j X.A) (hk : k ≤ j) (hx : ∀ σ, PassesAt (L2.CX X.prog X.w) X σ (E σ)) (he : PE X o ta)
    (ht : eval (.Call (.Attribute o m apos) [] [] pos) X.env = (do
      let ov ← eval o X.env
      standAt apos.atName
      let (f, first) ← holding [ov] (getMethod ov m pl)
      callWith pos f first (backTo pos (starEach [] X.env)) (backToKw pos (keywordEach [] X.env))) := by rfl) :
    PE X (.Call (.Attribute o m apos) [] [] pos) (tMethE C m sp E ta tNil) := by
  obtain ⟨f, fd, ps, hc, hm, F, hb⟩ := c.ex
  refine ⟨fun pins s σ H Q I h => ?_⟩
  refine PySem.W.methodCall_KW (pl := pl) (thn (he.run pins s σ H _ I h) fun u s1 ⟨x, H1, I1, rx, a, dx, fs, ex, ea, l, q⟩ => ?_) ht
  subst ex
  obtain rfl : u = Value.ref a := rx
  refine getmeth_ok I1 ea hc hm l ?_
  exact PySem.W.callWith_K0 (first := [.ref a]) I1.kIn hm.kp (run_fnS (us := [.ref a]) (vs := [.ref a]) F (hr.mono hk) hb (hx σ) I1 (.cons rfl .nil) q)
end
/-- an own exception class that is raised; one that is caught -/
structure ExcAt (K : PySem.W.Frag) (C : Addr) : Prop where
  x : PySem.W.excIn K C [.type "ValueError", .type "Exception", .type "BaseException", .type "object"] "ValueError.__new__" = true
  k : PySem.W.keepIn K (.ref C) = true
  b : PySem.W.subIn K (.ref C) (.type "BaseException") = some true
  t : PySem.W.typeIn K (.ref C) = some (.type "type")
structure ExcK (K : PySem.W.Frag) (C : Addr) : Prop where
  b : PySem.W.subIn K (.ref C) (.type "BaseException") = some true
  i : PySem.W.isClsIn K C = true
  t : PySem.W.typeIn K (.ref C) = some (.type "type")
theorem ExcK.exm {K : PySem.W.Frag} {C D : Addr} {r : Bool} (c : ExcK K C) (h : PySem.W.subIn K (.ref D) (.ref C) = some r) : PySem.W.exmOne K (.ref D) (.ref C) = some r := by
  have e1 : (PySem.W.subIn K (.ref C) (.type "BaseException") == some true) = true := by rw [c.b] <;> rfl
  have e2 : ((PySem.W.clsIn K C).isSome && PySem.W.typeIn K (.ref C) == some (.type "type")) = true := by
    have h2' : (PySem.W.clsIn K C).isSome = true := c.i
    rw [h2', c.t] <;> rfl
  show (if (PySem.W.subIn K (.ref C) (.type "BaseException") == some true) = true then (if ((PySem.W.clsIn K C).isSome && PySem.W.typeIn K (.ref C) == some (.type "type")) = true then PySem.W.subIn K (.ref D) (.ref C) else none) else none) = some r
  rw [if_pos e1, if_pos e2]
  exact h
/-- C() -/
theorem pmk_own0 {X : Cx} {C : Addr} {x : Str} {p pos : Pos} (c : ExcAt X.K C) (gC : X.mg x = some (.ref C)) (hg : Gl X x) (hdb : (x == ("__debug__" : Str)) = false := by decide) :
    PMk X (.Call (.Name x p) [] [] pos) (fun _ H Q => Q (.ref C) none H) := by
  intro pins s σ H Q I h
  refine wpAny_Call_Name_kw (ld_glob I hg gC ?_ hdb)
  refine PySem.W.callWith_K0 I.kIn c.k ?_
  obtain ⟨bm, N, nm, qn, bs, hdct, sn, sub, ab, col, dd, k0, k1, k2, k3, k5, mN, hC, hN, hni, T⟩ := exc_obj I.kIn c.x
  refine wpAny_call_exc_subT PySem.F.excBase_ValueError T hC hN hni (fun h' e hm => ?_) (Nat.zero_le _)
  exact mk_of I hm (raises_own c.b c.t) h (I.hok.gone hm.new)
section
variable {K : PySem.W.Frag} {σ : L2.St} {H : Hp} {ta : TE} {tr : TA} {Q : VK} {E : L2.St → XK} {C : Addr} {m : Str} {sp : Sp}
theorem L_callS (h : tr σ H fun vs H1 => sp vs H1 Q (E σ)) : tCallS sp E tr σ H Q := h
theorem L_methE (h : ta σ H fun x H1 => ∃ a dx fs, x = .ref a ∧ H1 a = some (.ins C dx fs) ∧ fs.lookup m = none ∧ tr σ H1 fun vs H2 => sp (x :: vs) H2 Q (E σ)) : tMethE C m sp E ta tr σ H Q := h
theorem L_makeE (h : tr σ H fun vs H1 => MakeP C sp (E σ) vs H1 Q) : tMakeE C sp E tr σ H Q := h
theorem L_meth {E : XK} (h : ta σ H fun x H1 => ∃ a dx fs, x = .ref a ∧ H1 a = some (.ins C dx fs) ∧ fs.lookup m = none ∧ tr σ H1 fun vs H2 => sp (x :: vs) H2 Q E) : tMeth C m sp [] E ta tr σ H Q := by
  unfold tMeth
  simp only [List.append_nil]
  exact h
theorem L_methv {a dx : Addr} {fs : List (Str × V)} {R : Prop} (h : H a = some (.ins C dx fs)) (l : fs.lookup m = none) (q : R) : ∃ a' dx fs, V.ref a = V.ref a' ∧ H a' = some (.ins C dx fs) ∧ fs.lookup m = none ∧ R := ⟨a, dx, fs, rfl, h, l, q⟩
theorem L_only {c : Value} {ts : Addr → Value → Option Addr → TS} {Wout : WX} {D : Ends} {cls : Value} {d : Option Addr} (h : PySem.W.exmOne K cls c = some true) (q : ∀ a, H a = none → ts a cls d D σ H) : wOnly K c ts Wout D cls d σ H := ⟨true, h, fun _ => q, fun z => nomatch z⟩
end
/-- no whole number: another kind of thing, or a truth -/
def NotW (K : PySem.W.Frag) (H : Hp) (v : V) : Prop := (∃ b, v = .bl b) ∨ ∃ a, TyX K H v (.type a) ∧ kitB a "int" = some false
/-- what is_whole denies -/
def BadW (K : PySem.W.Frag) (H : Hp) (v : V) (lo hi : Int) : Prop := NotW K H v ∨ ∃ t, v = .int t ∧ ¬ (lo ≤ t ∧ t ≤ hi)
section
variable {K : PySem.W.Frag} {H : Hp}
theorem notw_non : NotW K H .non := .inr ⟨_, .base .non, by decide +kernel⟩
theorem notw_bl {b : Bool} : NotW K H (.bl b) := .inl ⟨b, rfl⟩
theorem notw_str {z : Str} : NotW K H (.str z) := .inr ⟨_, .base (.str z), by decide +kernel⟩
theorem notw_lst {a : Addr} {xs : List V} (h : H a = some (.lst xs)) : NotW K H (.ref a) := .inr ⟨_, .base (.lst h), by decide +kernel⟩
theorem notw_tup {a : Addr} {xs : List V} (h : H a = some (.tup xs)) : NotW K H (.ref a) := .inr ⟨_, .base (.tup h), by decide +kernel⟩
theorem notw_dK {a : Addr} {xs : List (Key × V)} (h : H a = some (.dK xs)) : NotW K H (.ref a) := .inr ⟨_, .base (.dK h), by decide +kernel⟩
theorem badw_int {t lo hi : Int} (h : ¬ (lo ≤ t ∧ t ≤ hi)) : BadW K H (.int t) lo hi := .inr ⟨t, rfl, h⟩
theorem NotW.bad {v : V} {lo hi : Int} (h : NotW K H v) : BadW K H v lo hi := .inl h
end
section
variable {K : PySem.W.Frag} {H H' : Hp}
theorem tyx_T {a : Addr} {xs : List V} (h : SqT K H a xs) : TyX K H (.ref a) (.type "tuple") := by
  rcases h with (h | ⟨o, h⟩) | ⟨o, _, _, h, c, _⟩
  · exact .base (.tup h)
  · exact .fTuple h
  · exact .kTuple h c
theorem tyx_L {a : Addr} {xs : List V} (h : SqL K H a xs) : TyX K H (.ref a) (.type "list") := by
  rcases h with (h | ⟨o, h⟩) | ⟨o, _, _, h, c, _⟩
  · exact .base (.lst h)
  · exact .base (.frz h)
  · exact .kList h c
variable {σ : L2.St} {Q : VK}
theorem L_sort2 {a : Addr} {x y : Int} (h : SqL K H a [V.int x, V.int y]) (q : ∀ p, H p = none → Q (.ref p) (upd H p (.lst [V.int (min x y), V.int (max x y)]))) : rSorted K [.ref a] H Q := by
  refine ⟨a, [x, y], rfl, h, by simp, fun ns p hp hs hn => ?_⟩
  have hl := hp.length_eq
  match ns, hl with
  | [u, v], _ =>
    have hle : u ≤ v := by simpa using hs
    have hm : (u = x ∧ v = y) ∨ (u = y ∧ v = x) := by
      have h1 : u ∈ [x, y] := hp.mem_iff.mp (by simp)
      have h2 : v ∈ [x, y] := hp.mem_iff.mp (by simp)
      have h3 : x ∈ [u, v] := hp.mem_iff.mpr (by simp)
      have h4 : y ∈ [u, v] := hp.mem_iff.mpr (by simp)
      simp only [List.mem_cons, List.not_mem_nil, or_false] at h1 h2 h3 h4
      rcases h1 with h1 | h1 <;> rcases h2 with h2 | h2 <;> rcases h3 with h3 | h3 <;> rcases h4 with h4 | h4 <;> omega
    have e : [u, v] = [min x y, max x y] := by
      rcases hm with ⟨rfl, rfl⟩ | ⟨rfl, rfl⟩
      · rw [Int.min_eq_left hle, Int.max_eq_right hle]
      · rw [Int.min_eq_right hle, Int.max_eq_left hle]
    rw [e]
    exact q p hn
theorem L_list1 {a : Addr} {xs : List V} (h : SqL K H a xs) (q : ∀ l, H l = none → Q (.ref l) (upd H l (.lst xs))) : aList1 K [.ref a] H Q := ⟨a, xs, rfl, .inl h, q⟩
theorem L_tuple1 {a : Addr} {xs : List V} (h : SqL K H a xs) (q : ∀ l, H l = none → Q (.ref l) (upd H l (.tup xs))) : aTuple1 K [.ref a] H Q := ⟨a, xs, rfl, .inl ⟨h, q⟩⟩
theorem eqv_same {d : PyData} (h : SeqAt.shaped d = true) : PyData.eqv d d = true := SeqAt.eqv_refl d (SeqAt.canLay_of_shaped h)
theorem L_eqR {x y : V} {d : PyData} (hx : Dp K H x d) (hy : Dp K H y d) (s : SeqAt.shaped d = true) (q : Q (.bl true) H) : aEq K x y H Q := L_eqD hx hy s s (by rw [eqv_same s]; exact q)
theorem L_neR {x y : V} {d : PyData} (hx : Dp K H x d) (hy : Dp K H y d) (s : SeqAt.shaped d = true) (q : Q (.bl false) H) : aNe K x y H Q := L_neD hx hy s s (by rw [eqv_same s]; exact q)
theorem L_zipA {a b : Addr} {xs ys : List V} {R : Addr → Addr → Prop} (h1 : SqL K H a xs) (h2 : SqL K H b ys) (q : R a b) : ∃ a' b' xs ys, [V.ref a, V.ref b] = [.ref a', .ref b'] ∧ SqL K H a' xs ∧ SqL K H b' ys ∧ R a' b' := ⟨a, b, xs, ys, rfl, h1, h2, q⟩
end
/-- data that == may be asked of, at most n deep -/
structure Shp (n : Nat) (d : PyData) : Prop where
  c : d.canLay0 = true
  d : d.depth ≤ n
theorem Shp.ok {n : Nat} {d : PyData} (h : Shp n d) (hn : n ≤ 64 := by decide) : SeqAt.shaped d = true := by
  unfold SeqAt.shaped
  rw [h.c, decide_eq_true (Nat.le_trans h.d hn)]; rfl
theorem shp_int {n : Nat} {i : Int} : Shp n (.int i) := ⟨by simp [PyData.canLay0], by simp [PyData.depth]⟩
theorem shp_bl {n : Nat} {i : Bool} : Shp n (.bool i) := ⟨by simp [PyData.canLay0], by simp [PyData.depth]⟩
theorem shp_non {n : Nat} : Shp n .none := ⟨by simp [PyData.canLay0], by simp [PyData.depth]⟩
theorem shp_str {n : Nat} {z : Str} (h : PyData.strOk z = true) : Shp n (.str z) := ⟨by simpa [PyData.canLay0] using h, by simp [PyData.depth]⟩
theorem shp_all {n : Nat} : ∀ {ds : List PyData}, (∀ d ∈ ds, Shp n d) → PyData.canLayAll0 ds = true ∧ PyData.depthAll ds ≤ n
  | [], _ => ⟨by simp [PyData.canLayAll0], by simp [PyData.depthAll]⟩
  | d :: ds, h => by
    have h1 := h d (List.mem_cons_self ..)
    have h2 := shp_all fun x hx => h x (List.mem_cons_of_mem _ hx)
    exact ⟨by simp [PyData.canLayAll0, h1.c, h2.1], by simp only [PyData.depthAll]; exact Nat.max_le.mpr ⟨h1.d, h2.2⟩⟩
theorem shp_lst {n : Nat} {ds : List PyData} (h : ∀ d ∈ ds, Shp n d) : Shp (n + 1) (.list ds) := ⟨by simp only [PyData.canLay0]; exact (shp_all h).1, by simp only [PyData.depth]; have := (shp_all h).2; omega⟩
theorem shp_tup {n : Nat} {ds : List PyData} (h : ∀ d ∈ ds, Shp n d) : Shp (n + 1) (.tuple ds) := ⟨by simp only [PyData.canLay0]; exact (shp_all h).1, by simp only [PyData.depth]; have := (shp_all h).2; omega⟩
theorem shp_nil {n : Nat} : ∀ d ∈ ([] : List PyData), Shp n d := fun _ h => nomatch h
theorem shp_cons {n : Nat} {d : PyData} {ds : List PyData} (h : Shp n d) (t : ∀ d ∈ ds, Shp n d) : ∀ x ∈ d :: ds, Shp n x := fun x hx => by
  rcases List.mem_cons.mp hx with rfl | hx
  · exact h
  · exact t x hx
theorem shp_map {n : Nat} {α : Type} {f : α → PyData} {l : List α} (h : ∀ a ∈ l, Shp n (f a)) : ∀ d ∈ l.map f, Shp n d := fun d hd => by
  obtain ⟨a, ha, rfl⟩ := List.mem_map.mp hd
  exact h a ha
theorem shp_ints {n : Nat} {l : List Int} : Shp (n + 1) (.list (l.map .int)) := shp_lst (shp_map fun _ _ => shp_int)
theorem _root_.L2.Dp.ints {K : PySem.W.Frag} {H : Hp} {a : Addr} {ns : List Int} (h : SqL K H a (ns.map V.int)) : Dp K H (.ref a) (.list (ns.map .int)) := .lst h (dp_ints ns)
section
variable {K : PySem.W.Frag} {H : Hp} {Q : VK}
theorem L_powE {i j n : Int} (h : CPow i j) (e : i ^ j.toNat = n) (q : Q (.int n) H) : rI CPow (fun i j => .int (i ^ j.toNat)) (.int i) (.int j) H Q := ⟨i, j, rfl, rfl, h, by subst e; exact q⟩
/-- one of some ints -/
theorem L_menu {ns : List Int} {p : Addr} {i : Int} (h : SqL K H p (ns.map V.int)) (h0 : 0 ≤ i) (h1 : i < ns.length) (q : ∀ v ∈ ns, Q (.int v) H) : rIx K (.ref p) (.int i) H Q := by
  have hl : i.toNat < ns.length := by omega
  refine L_ixL h (atI_ints h0 h1) (q _ ?_)
  rw [List.getD_eq_getElem?_getD, List.getElem?_eq_getElem hl]
  exact List.getElem_mem hl
/-- an item of a list of ints, some property of all its items kept -/
theorem L_ixP {ns : List Int} {p : Addr} {i : Int} {P : Int → Prop} (h : SqL K H p (ns.map V.int)) (hP : ∀ v ∈ ns, P v) (h0 : 0 ≤ i) (h1 : i < ns.length) (q : ∀ v, P v → Q (.int v) H) : rIx K (.ref p) (.int i) H Q :=
  L_menu h h0 h1 fun v hv => q v (hP v hv)
end
theorem cdiv_lit {i j : Int} (h : 0 < j ∧ j < 1000000000000) : CDivW i j := (bd_64 (by omega)).cdiv h.1
theorem cpow_lit {i j : Int} (h : 0 ≤ j ∧ j ≤ 1000 ∧ -1000000 < i ∧ i < 1000000) : CPow i j := by
  have e : (2 : Nat) ^ 64 = 18446744073709551616 := by decide
  exact ⟨h.1, by omega, by omega⟩
theorem same_newE {H Hn : Hp} {p : Addr} {o : HO} (e : upd H p o = Hn) (h : H p = none) : Same H Hn := e ▸ same_new h
theorem upd_at {H Hn : Hp} {p : Addr} {o : HO} (e : upd H p o = Hn) : Hn p = some o := e ▸ upd_same
section
variable {K : PySem.W.Frag} {H H' : Hp} {p q : Addr} {us xs : List V} {ds : List PyData} {d : PyData} {y : V} {o : HO}
/-- a list grows: its things stand apart from it -/
theorem dp_grow (hdp : DpAll K (rs (· ≠ p) H) us ds) (s : Same H H') (hy : Dp K (rs (· ≠ p) H') y d) : DpAll K (rs (· ≠ p) (upd H' p o)) (us ++ [y]) (ds ++ [d]) :=
  (hdp.same (rs_same fun a u na ha => ⟨na, by rw [upd_ne na]; exact s _ _ ha⟩)).snoc (hy.same (rs_same fun a u na ha => ⟨na, by rw [upd_ne na]; exact ha⟩))
theorem dp_tupN (h : H q = some (.tup xs)) (n : q ≠ p) (ha : DpAll K (rs (· ≠ p) H) xs ds) : Dp K (rs (· ≠ p) H) (.ref q) (.tuple ds) := .tup (.of (rs_at n h)) ha
theorem dp_lstN (h : H q = some (.lst xs)) (n : q ≠ p) (ha : DpAll K (rs (· ≠ p) H) xs ds) : Dp K (rs (· ≠ p) H) (.ref q) (.list ds) := .lst (.of (rs_at n h)) ha
/-- data that stood ahead of p -/
theorem dp_old {H0 : Hp} (h : Dp K H0 y d) (n : H0 p = none) (s : Same H0 H) : Dp K (rs (· ≠ p) H) y d := h.same (rs_all fun a u ha => ⟨fun z => (by rw [z, n] at ha; cases ha), s _ _ ha⟩)
theorem dpA_old {H0 : Hp} (h : DpAll K H0 us ds) (n : H0 p = none) (s : Same H0 H) : DpAll K (rs (· ≠ p) H) us ds := h.same (rs_all fun a u ha => ⟨fun z => (by rw [z, n] at ha; cases ha), s _ _ ha⟩)
theorem dp_whole (h : DpAll K (rs (· ≠ p) H) us ds) (e : H p = some (.lst us)) : Dp K H (.ref p) (.list ds) := .lst (.of e) (h.same rs_sub)
theorem ne_new (h : H p = none) (h' : ∃ o, H q = some o) : p ≠ q := fun z => by
  obtain ⟨o, e⟩ := h'
  rw [z, e] at h; cases h
end
theorem fm_get {α β : Type} (g : α → β) : ∀ (l : List α), (List.range l.length).filterMap (fun i => l[i]?.map g) = l.map g
  | [] => rfl
  | a :: l => by
    have ih := fm_get g l
    rw [List.length_cons, List.range_succ_eq_map]
    simp only [List.filterMap_cons, List.getElem?_cons_zero, Option.map_some, List.filterMap_map, Function.comp_def, List.getElem?_cons_succ, List.map_cons]
    rw [ih]
theorem sum_take {α : Type} {l : List α} {f : α → Int} {i : Nat} {x : α} (h : l[i]? = some x) : ((l.take (i + 1)).map f).sum = ((l.take i).map f).sum + f x := by
  rw [List.take_succ, h]
  simp
theorem sum_takeAll {α : Type} {l : List α} {f : α → Int} {n : Nat} (h : l.length ≤ n) : ((l.take n).map f).sum = (l.map f).sum := by rw [List.take_of_length_le h]
/-! ### loops, the ends told one by one -/
section
variable {K : PySem.W.Frag} {σ : L2.St} {H : Hp} {g : TG} {tb : TS} {N : L2.St → Hp → Prop} {R : VK}
/-- what a for asks behind its iterable -/
abbrev ForT (J : It) (σ : L2.St) (H : Hp) (g : TG) (tb : TS) (N : L2.St → Hp → Prop) (R : VK) : Prop :=
  ∃ W : Nat → Nat → L2.St → Hp → Prop, (∃ m, W 0 m σ H) ∧ ∀ i m σ H, W i m σ H →
      (J.stop i H ∧ N σ H) ∨ (J.go i H ∧ ∃ M : L2.St → Hp → Prop, (∀ σ' H', M σ' H' → ∃ m', m' < m ∧ W (i + 1) m' σ' H') ∧ ∀ x H', J.yld i H x H' → g x σ H' fun σ2 H2 => tb ⟨M, R, N, M⟩ σ2 H2)
theorem f_it {J : It} {n : Nat} {G : Hp → Prop} {Y : Nat → Hp → V → Hp → Prop} (w : L2.Walk J n G Y) (Pv : Nat → L2.St → Hp → Prop) (h0 : Pv 0 σ H) (hG : ∀ i σ H, i ≤ n → Pv i σ H → G H)
    (hs : ∀ i x σ H H', i < n → Pv i σ H → Y i H x H' → g x σ H' fun σ2 H2 => tb ⟨Pv (i + 1), R, N, Pv (i + 1)⟩ σ2 H2) (hd : ∀ σ H, Pv n σ H → N σ H) : ForT J σ H g tb N R :=
  for_it (D := ⟨N, R, N, N⟩) w Pv h0 hG hs hd
theorem f_range {lo : Int} {n : Nat} (Pv : Nat → L2.St → Hp → Prop) (h0 : Pv 0 σ H)
    (hs : ∀ i σ H, i < n → Pv i σ H → g (.int (lo + i)) σ H fun σ2 H2 => tb ⟨Pv (i + 1), R, N, Pv (i + 1)⟩ σ2 H2) (hd : ∀ σ H, Pv n σ H → N σ H) : ForT (Itr lo n) σ H g tb N R :=
  for_range (D := ⟨N, R, N, N⟩) Pv h0 hs hd
theorem f_rangeC {lo c : Int} {n : Nat} (Pv : Nat → L2.St → Hp → Prop) (h0 : Pv 0 σ H)
    (hs : ∀ i σ H, i < n → Pv i σ H → g (.int (lo + (i : Nat) * c)) σ H fun σ2 H2 => tb ⟨Pv (i + 1), R, N, Pv (i + 1)⟩ σ2 H2) (hd : ∀ σ H, Pv n σ H → N σ H) : ForT (Itc lo c n) σ H g tb N R :=
  for_rangeC (D := ⟨N, R, N, N⟩) Pv h0 hs hd
theorem f_dp {a : Addr} {ds : List PyData} (h : Dp K H (.ref a) (.list ds)) (Pv : Nat → L2.St → Hp → Prop) (h0 : Pv 0 σ H) (hG : ∀ i σ' H', i ≤ ds.length → Pv i σ' H' → Same H H')
    (hs : ∀ i d x σ' H', i < ds.length → ds[i]? = some d → Pv i σ' H' → Dp K H' x d → g x σ' H' fun σ2 H2 => tb ⟨Pv (i + 1), R, N, Pv (i + 1)⟩ σ2 H2) (hd : ∀ σ' H', Pv ds.length σ' H' → N σ' H') : ForT (Itl K a) σ H g tb N R :=
  for_dp (D := ⟨N, R, N, N⟩) h Pv h0 hG hs hd
end
section
variable {σ σ' : L2.St} {H : Hp} {i : Nat} {v x : V} {B C : L2.St → Hp → Prop} {N : L2.St → Hp → Prop} {R : VK} {te : TE}
theorem L_gnameE {Q : L2.St → Hp → Prop} (e : σ.set i (some v) = σ') (h : Q σ' H) : gName i v σ H Q := by subst e; exact h
end
section
variable {K : PySem.W.Frag} {H H' : Hp} {σ : L2.St} {Q : VK} {te : TE} {tl th : TO}
theorem TyX_same {v : V} {t : Value} (e : Same H H') (h : TyX K H v t) : TyX K H' v t := by
  cases h with
  | base h =>
    refine .base ?_
    cases h with
    | non => exact .non
    | bl x => exact .bl x
    | int x => exact .int x
    | str x => exact .str x
    | flt x => exact .flt x
    | lst h => exact .lst (e _ _ h)
    | frz h => exact .frz (e _ _ h)
    | tup h => exact .tup (e _ _ h)
    | dK h => exact .dK (e _ _ h)
    | dT h => exact .dT (e _ _ h)
    | ins h cl ha hn htk hm => exact .ins (e _ _ h) cl ha hn htk hm
  | byt b => exact .byt b
  | set h => exact .set (e _ _ h)
  | kList h c => exact .kList h c
  | kTuple h c => exact .kTuple h c
  | kDict h c => exact .kDict h c
  | fTuple h => exact .fTuple (e _ _ h)
  | fDict h => exact .fDict (e _ _ h)
theorem NotW.same {v : V} (h : NotW K H v) (e : Same H H') : NotW K H' v := by
  rcases h with h | ⟨a, h1, h2⟩
  · exact .inl h
  · exact .inr ⟨a, TyX_same e h1, h2⟩
theorem BadW.same {v : V} {lo hi : Int} (h : BadW K H v lo hi) (e : Same H H') : BadW K H' v lo hi := by
  rcases h with h | h
  · exact .inl (h.same e)
  · exact .inr h
theorem L_sl {r : V → Option Int → Option Int → Hp → VK → Prop} (h : te σ H fun x H1 => tl σ H1 fun l H2 => th σ H2 fun u H3 => r x l u H3 Q) : L2.tSl r te tl th σ H Q := h
theorem L_noPart {R : Option Int → Hp → Prop} (h : R none H) : tNoPart σ H R := h
theorem L_part {t : TE} {R : Option Int → Hp → Prop} (h : t σ H fun x H1 => ∃ i, x = .int i ∧ R (some i) H1) : tPart t σ H R := h
theorem L_ki {i : Int} {R : Int → Prop} (h : R i) : ∃ j, V.int i = V.int j ∧ R j := ⟨i, rfl, h⟩
theorem L_slL {a : Addr} {xs : List V} {lo hi : Option Int} (h : SqL K H a xs) (q : ∀ p, H p = none → Q (.ref p) (upd H p (.lst (cutV xs lo hi)))) : rSlL K (.ref a) lo hi H Q := ⟨a, xs, rfl, h, q⟩
end
def cutG {α : Type} (xs : List α) (lo hi : Option Int) : List α := (xs.drop (HT.sIx xs.length 0 lo)).take (HT.sIx xs.length xs.length hi - HT.sIx xs.length 0 lo)
theorem cutV_map {α : Type} (f : α → V) (xs : List α) (lo hi : Option Int) : cutV (xs.map f) lo hi = (cutG xs lo hi).map f := by
  unfold cutV cutG
  rw [List.length_map, List.map_take, List.map_drop]
theorem cutG_mem {α : Type} {xs : List α} {lo hi : Option Int} {x : α} (h : x ∈ cutG xs lo hi) : x ∈ xs := List.mem_of_mem_drop (List.mem_of_mem_take h)
theorem cutG_len {α : Type} (xs : List α) (lo hi : Option Int) : (cutG xs lo hi).length ≤ xs.length := by
  unfold cutG
  rw [List.length_take, List.length_drop]
  omega
section
variable {K : PySem.W.Frag} {H : Hp} {Q : VK}
/-- one of some things -/
theorem L_menuV {xs : List V} {p : Addr} {i : Int} (h : SqL K H p xs) (h0 : 0 ≤ i) (h1 : i < xs.length) (q : ∀ v ∈ xs, Q v H) : rIx K (.ref p) (.int i) H Q := by
  have hl : i.toNat < xs.length := by omega
  exact L_ixL h (atI_int h0 (List.getElem?_eq_getElem hl)) (q _ (List.getElem_mem hl))
end
theorem hpL {K : PySem.W.Frag} {H : Hp} {a : Addr} {xs : List V} (h : H a = some (.lst xs)) : SqL K H a xs := .of h
theorem hpT {K : PySem.W.Frag} {H : Hp} {a : Addr} {xs : List V} (h : H a = some (.tup xs)) : SqT K H a xs := .of h
theorem bd_mod {x n : Int} (h : 0 < n ∧ n < 18446744073709551616) : Bd 64 (x % n) := bd_64 (by
  have h1 := Int.emod_nonneg x (show n ≠ 0 by omega)
  have h2 := Int.emod_lt_of_pos x h.1
  omega)
theorem hp_from {H0 H : Hp} {p : Addr} {o : HO} (h : H0 p = some o) (e : Same H0 H) : H p = some o := e _ _ h
theorem same_via {H H1 H2 : Hp} (b : Same H1 H2) (a : Same H H1) : Same H H2 := a.trans b
theorem same_upd' {H H' : Hp} {a : Addr} {o : HO} (h : H' a = none) (e : Same H H') : Same H (upd H' a o) := same_upd e h
theorem same_mut' {H H' : Hp} {a : Addr} {o : HO} (h : H a = none) (e : Same H H') : Same H (upd H' a o) := same_mut e h
section
variable {K : PySem.W.Frag} {H : Hp} {σ : L2.St} {Q : VK}
theorem L_clear {a : Addr} {xs : List V} (h : H a = some (.lst xs)) (q : Q .non (upd H a (.lst []))) : rClear (.ref a) [] H Q := ⟨a, xs, rfl, rfl, h, q⟩
theorem L_dnew (h : ∀ p, H p = none → Q (.ref p) (upd H p (.dK []))) : tDNewK σ H Q := h
/-- no list -/
def NotL (K : PySem.W.Frag) (H : Hp) (v : V) : Prop := ∃ a, TyX K H v (.type a) ∧ kitB a "list" = some false
theorem notl_tup {a : Addr} {xs : List V} (h : SqT K H a xs) : NotL K H (.ref a) := ⟨_, tyx_T h, by decide +kernel⟩
theorem notl_non : NotL K H .non := ⟨_, .base .non, by decide +kernel⟩
theorem notl_int {i : Int} : NotL K H (.int i) := ⟨_, .base (.int i), by decide +kernel⟩
theorem notl_bl {i : Bool} : NotL K H (.bl i) := ⟨_, .base (.bl i), by decide +kernel⟩
theorem notl_str {i : Str} : NotL K H (.str i) := ⟨_, .base (.str i), by decide +kernel⟩
theorem notl_dK {a : Addr} {xs : List (Key × V)} (h : H a = some (.dK xs)) : NotL K H (.ref a) := ⟨_, .base (.dK h), by decide +kernel⟩
theorem NotL.same {H' : Hp} {v : V} (h : NotL K H v) (e : Same H H') : NotL K H' v := by
  obtain ⟨a, h1, h2⟩ := h
  exact ⟨a, TyX_same e h1, h2⟩
end
theorem rep1 (x : Int) : ∀ n : Nat, (List.replicate n [V.int x]).flatten = (List.replicate n x).map V.int
  | 0 => rfl
  | n + 1 => by rw [List.replicate_succ, List.flatten_cons, rep1 x n]; rfl
section
variable {K : PySem.W.Frag} {H : Hp} {Q : VK}
theorem L_neB {i j : Bool} (q : Q (.bl (!decide (i = j))) H) : aNe K (.bl i) (.bl j) H Q := .inl ⟨rfl, by rw [show decide (V.bl i = V.bl j) = decide (i = j) by simp]; exact q⟩
end
/-! ### for x in xs: check(x) -/
section
variable {K : PySem.W.Frag} {σ : L2.St} {H : Hp} {N : L2.St → Hp → Prop} {R : VK} {a : Addr} {xs : List V} {sp : Sp} {ES : L2.St → XK} {i : Nat} {c : Value}
theorem set_self (σ : L2.St) (i : Nat) (hi : i < σ.length) : ∃ v, σ = σ.set i v := ⟨σ[i], by simp⟩
theorem L_forChk (hL : SqL K H a xs) (hi : i < σ.length) (hok : ∀ x ∈ xs, ∀ Q E, Q .non H → sp [x] H Q E) (q : ∀ v, N (σ.set i v) H) : ForT (Itl K a) σ H (gName i) (tDrop (tCallS sp ES (tCons (tVar i) tNil))) N R := by
  refine f_it walk_list (fun _ σ' H' => H' = H ∧ ∃ v, σ' = σ.set i v) ⟨rfl, set_self σ i hi⟩ (fun _ _ _ _ p => p.1 ▸ hL) ?_ ?_
  · rintro j x σ' H' H'' hj ⟨rfl, v, rfl⟩ ⟨rfl, e⟩
    refine L_gname (L_drop (L_callS (L_cons (L_var (v := x) ?_ (L_nil (hok x (List.mem_of_getElem? e) _ _ ?_))))))
    · simp [hi]
    · exact ⟨rfl, some x, by rw [List.set_set]⟩
  · rintro σ' H' ⟨rfl, v, rfl⟩
    exact q v
theorem L_forChkX (hL : SqL K H a xs) (hi : i < σ.length) (hx : ∀ x ∈ xs, (∀ Q E, Q .non H → sp [x] H Q E) ∨ ∀ Q E, E c none H → sp [x] H Q E) (hb : ∃ x ∈ xs, ∀ Q E, E c none H → sp [x] H Q E) (q : ∀ v, ES (σ.set i v) c none H) :
    ForT (Itl K a) σ H (gName i) (tDrop (tCallS sp ES (tCons (tVar i) tNil))) N R := by
  obtain ⟨x0, hx0, hb0⟩ := hb
  obtain ⟨j0, hj0⟩ := List.mem_iff_getElem?.mp hx0
  refine f_it walk_list (fun j σ' H' => H' = H ∧ (∃ v, σ' = σ.set i v) ∧ ∃ k x, j ≤ k ∧ xs[k]? = some x ∧ ∀ Q E, E c none H → sp [x] H Q E) ⟨rfl, set_self σ i hi, j0, x0, Nat.zero_le _, hj0, hb0⟩ (fun _ _ _ _ p => p.1 ▸ hL) ?_ ?_
  · rintro j x σ' H' H'' hj ⟨rfl, ⟨v, rfl⟩, k, y, hk, hy, hby⟩ ⟨rfl, e⟩
    refine L_gname (L_drop (L_callS (L_cons (L_var (v := x) ?_ (L_nil ?_)))))
    · simp [hi]
    · by_cases hc : ∀ Q E, E c none H'' → sp [x] H'' Q E
      · exact hc _ _ (by rw [List.set_set]; exact q _)
      · refine (hx x (List.mem_of_getElem? e)).resolve_right hc _ _ ⟨rfl, ⟨some x, by rw [List.set_set]⟩, k, y, ?_, hy, hby⟩
        rcases Nat.lt_or_eq_of_le hk with hlt | rfl
        · exact hlt
        · rw [e] at hy
          cases hy
          exact absurd hby hc
  · rintro σ' H' ⟨rfl, ⟨v, rfl⟩, k, y, hk, hy, hby⟩
    have := (List.getElem?_eq_some_iff.mp hy).1
    omega
end
theorem L_bm0 {K : PySem.W.Frag} {σ : L2.St} {H : Hp} {Q : VK} {te : TE} {T : String} {r : V → List V → Hp → VK → Prop} (h : te σ H fun x H1 => tyV K T x H1 ∧ r x [] H1 Q) : tBM0 K T r te σ H Q := h
/-- what an expression's ways have in common -/
theorem L_via {P : VK → Prop} {Q : VK} (R : V → Hp → Prop) (key : ∀ Q : VK, (∀ v H', R v H' → Q v H') → P Q) (q : ∀ v H', R v H' → Q v H') : P Q := key Q q
section
variable {K : PySem.W.Frag} {H : Hp} {σ : L2.St} {Q : VK} {ta tb : TE}
theorem L_disp1 (h : ∀ p, H p = none → ta σ (upd H p (.dK [])) fun k H1 => tb σ H1 fun v H2 => H2 p = some (.dK []) ∧ ∃ kvs : List (Key × V), [(k, v)] = kvs.map (fun kv => (kV kv.1, kv.2)) ∧ kvs.length ≤ 15 ∧ Q (.ref p) (upd H2 p (.dK (mergeK [] kvs)))) : tDisp [(ta, tb)] σ H Q := h
theorem L_dispE1 {p : Addr} {k v : V} (kk : Key) (e : k = kV kk) (h : H p = some (.dK [])) (q : Q (.ref p) (upd H p (.dK [(kk, v)]))) : H p = some (.dK []) ∧ ∃ kvs : List (Key × V), [(k, v)] = kvs.map (fun kv => (kV kv.1, kv.2)) ∧ kvs.length ≤ 15 ∧ Q (.ref p) (upd H p (.dK (mergeK [] kvs))) :=
  ⟨h, [(kk, v)], by rw [e]; rfl, by simp, q⟩
/-- a sign of a text -/
theorem L_ixSany {z : Str} {i : Int} (hz : z.length ≤ 1000000) (h0 : 0 ≤ i) (h1 : i < z.length) (q : ∀ a ∈ z.cps.toList, Q (.str ⟨#[a]⟩) H) : rIx K (.str z) (.int i) H Q := by
  have hl : i.toNat < z.cps.toList.length := by
    have e : z.cps.toList.length = z.length := by rw [Array.length_toList]; rfl
    omega
  have h3 : z.cps.toList[i.toNat]? = some z.cps.toList[i.toNat] := List.getElem?_eq_getElem hl
  refine L_ixS (sz_dec hz) (a := z.cps.toList[i.toNat]) ?_ (q _ (List.getElem_mem hl))
  obtain ⟨j, rfl⟩ : ∃ j : Nat, i = (j : Int) := ⟨i.toNat, by omega⟩
  exact atI_nat h3
theorem L_inR {i lo hi : Int} {a : Addr} (h : H a = some (.rng lo hi)) (q : Q (.bl (decide (lo ≤ i ∧ i < hi))) H) : (∃ i' a' lo hi, V.int i = V.int i' ∧ V.ref a = V.ref a' ∧ H a' = some (.rng lo hi) ∧ Q (.bl (decide (lo ≤ i' ∧ i' < hi))) H) := ⟨i, a, lo, hi, rfl, rfl, h, q⟩
theorem L_rng2 {i j : Int} (q : ∀ p, H p = none → Q (.ref p) (upd H p (.rng i j))) : (∃ i' j', [V.int i, V.int j] = [V.int i', V.int j'] ∧ ∀ p, H p = none → Q (.ref p) (upd H p (.rng i' j'))) := ⟨i, j, rfl, q⟩
/-- no text -/
def NotS (K : PySem.W.Frag) (H : Hp) (v : V) : Prop := ∃ a, TyX K H v (.type a) ∧ kitB a "str" = some false
theorem nots_tup {a : Addr} {xs : List V} (h : SqT K H a xs) : NotS K H (.ref a) := ⟨_, tyx_T h, by decide +kernel⟩
theorem nots_lst {a : Addr} {xs : List V} (h : SqL K H a xs) : NotS K H (.ref a) := ⟨_, tyx_L h, by decide +kernel⟩
theorem nots_non : NotS K H .non := ⟨_, .base .non, by decide +kernel⟩
theorem nots_int {i : Int} : NotS K H (.int i) := ⟨_, .base (.int i), by decide +kernel⟩
theorem nots_bl {i : Bool} : NotS K H (.bl i) := ⟨_, .base (.bl i), by decide +kernel⟩
theorem nots_dK {a : Addr} {xs : List (Key × V)} (h : H a = some (.dK xs)) : NotS K H (.ref a) := ⟨_, .base (.dK h), by decide +kernel⟩
theorem NotS.same {H' : Hp} {v : V} (h : NotS K H v) (e : Same H H') : NotS K H' v := by
  obtain ⟨a, h1, h2⟩ := h
  exact ⟨a, TyX_same e h1, h2⟩
end
theorem len1 (a : Nat) : (⟨#[a]⟩ : Str).length = 1 := rfl
theorem str_len_append (a b : Str) : (a ++ b).length = a.length + b.length := Array.size_append
theorem str_len {z : Str} : z.cps.toList.length = z.length := by rw [Array.length_toList]; rfl
theorem one_lt {c d : Nat} : ([c] : List Nat) < [d] ↔ c < d := by
  rw [List.cons_lt_cons_iff]
  constructor
  · rintro (h | ⟨_, h⟩)
    · exact h
    · exact absurd h (List.not_lt_nil _)
  · exact .inl
theorem str_app_list (a b : Str) : (a ++ b).cps.toList = a.cps.toList ++ b.cps.toList := Array.toList_append
theorem eqv_nil {ds : List PyData} : PyData.eqv (.list ds) (.list []) = ds.isEmpty := by
  cases ds <;> simp [PyData.eqv, PyData.eqvAll]
theorem strOk_of {z : Str} (h : ∀ c ∈ z.cps.toList, c < 1114112) : PyData.strOk z = true := by
  show (z.cps.all (· < 0x110000)) = true
  rw [← Array.all_toList, List.all_eq_true]
  intro c hc
  exact decide_eq_true (h c hc)
theorem L_nnT {A B : Prop} (a : A) : if (!!true) = true then A else B := L_T a
theorem L_nnF {A B : Prop} (b : B) : if (!!false) = true then A else B := L_F b
theorem bd_128 {i : Int} (h : -340282366920938463463374607431768211456 < i ∧ i < 340282366920938463463374607431768211456) : Bd 128 i := by
  unfold Bd
  have : (2 : Nat) ^ 128 = 340282366920938463463374607431768211456 := by decide
  omega
/-! ### an exception that was caught, held by a name beyond the clause -/
/-- an exception of the class cls at a, its own dict d -/
def ExI (cls : Value) (d : Option Addr) (a : Addr) : HO := .ext fun h => ∃ (oe : Obj) (vs : Array Value), h.get? a = some oe ∧ Zc cls d oe ∧ oe.data = .fields vs
section
variable {X : Cx} {pins : List (Addr × Obj)} {σ : L2.St} {H : Hp} {s : Shared}
theorem track {a : Addr} {d : Option Addr} {cls : Value} {oe : Obj} {vs : Array Value} (I : Inv X pins σ H s) (na : H a = none) (he : s.heap.get? a = some oe) (z : Zc cls d oe) (hd : oe.data = .fields vs) (n0 : X.s_0.heap.get? a = none)
    (nL : a ≠ X.env.locals) (np : ∀ p ∈ X.pn ++ pins, p.1 ≠ a) : Inv X pins σ (upd H a (ExI cls d a)) s where
  ok := I.ok
  os := I.os
  bare := I.bare
  base := {
    keep := I.base.keep
    slot := I.base.slot
    free := fun b o e n hx => by
      rw [upd_ne (fun z => by rw [z, n0] at e; cases e)]
      exact I.base.free b o e n hx
    there := I.base.there
    tups := fun b xs q => by
      have t := I.base.tups b xs q
      rw [upd_ne (ne_of_none t na)]; exact t
    frzs := fun b o u q => by
      have t := I.base.frzs b o u q
      rw [upd_ne (ne_of_none t na)]; exact t
    tbls := fun b ps q => by
      obtain ⟨more, t⟩ := I.base.tbls b ps q
      exact ⟨more, by rw [upd_ne (ne_of_none t na)]; exact t⟩ }
  loc := I.loc
  cell := I.cell
  free := by rw [upd_ne nL.symm]; exact I.free
  freeC := fun x c e => by
    obtain ⟨v, o, ho, hc⟩ := I.cell x c e
    rw [upd_ne (fun z => by rw [z, he] at ho; cases ho; rw [hd] at hc; cases hc)]
    exact I.freeC x c e
  pin := fun p hp => by
    obtain ⟨h1, h2, h3⟩ := I.pin p hp
    exact ⟨h1, by rw [upd_ne (np p hp)]; exact h2, h3⟩
  hok := fun b o e => by
    by_cases hb : b = a
    · cases hb
      rw [upd_same] at e
      cases e
      exact ⟨⟨oe, vs, he, z, hd⟩, ⟨oe, he⟩, fun _ _ ⟨o1, v1, q, r⟩ k => ⟨o1, v1, k o1 q, r⟩⟩
    · rw [upd_ne hb] at e
      exact (I.hok b o e).stay (fun _ _ _ q => q) (fun c q => by rw [upd_ne (ne_of_none q na)]; exact q) fun c xs q => by rw [upd_ne (ne_of_none q na)]; exact q
  len := I.len
end
/-- what 'except x as n' wishes of an exception, which is tracked behind the suite -/
def wAsT (K : PySem.W.Frag) (c : Value) (i : Nat) (ts : Addr → Value → Option Addr → TS) (Wout : WX) (D : Ends) : WX := fun cls d σ H =>
  ∃ b, PySem.W.exmOne K cls c = some b ∧
    (b = true → ∀ a, H a = none → ts a cls d ⟨fun σ' H' => H' a = none → D.nx (σ'.set i none) (upd H' a (ExI cls d a)), D.rt, fun σ' H' => D.bk (σ'.set i none) H', fun σ' H' => D.ct (σ'.set i none) H'⟩ (σ.set i (some (.ref a))) H) ∧
    (b = false → Wout cls d σ H)
section
variable {X : Cx} {x n : Str} {c : Value} {i : Nat} {body suite : List Stmt} {b₀ : Stmt} {np pos pos' : Pos} {tb : WX → TS} {ts : Addr → Value → Option Addr → TS} {Wout : WX}
theorem ps_try_asT (hs : X.stack = X.env :: X.outer) (hf : X.env.frame = some X.env.locals) (hN : X.N.Nodup) (hi : X.N[i]? = some n) (hln : X.env.kindOf n = some .local) (hex : X.ex = []) (hc : Names X x c) (tk : Takes X Wout)
    (hb : ∀ (W : WX) (pn : List (Addr × Obj)) (xe : Value → Shared → Prop), Takes (X.tr pn xe) W → PassesOwn (model X.prog X.w) X.A X.env xe → PSs (X.tr pn xe) body (tb W))
    (hsu : ∀ (a : Addr) (oe : Obj) (cls : Value) (d : Option Addr) (pn : List (Addr × Obj)), Zc cls d oe → (∃ vs, oe.data = .fields vs) → PSs (X.suite a ((a, oe) :: pn)) (b₀ :: suite) (ts a cls d)) :
    PS X (.Try body [.ExceptHandler (some (.Name x np)) (some n) (b₀ :: suite) pos'] [] [] pos) (fun D σ H => tb (wAsT X.K c i ts Wout D) D σ H) := by
  constructor
  intro pins s0 σ0 H0 D I0 start
  have okX := I0.ok
  have frames : X.A.frames = some (X.env :: X.outer) := by
    rw [okX.frames, hs]
  apply wpAny_Try_except
  -- what is raised in the body is looked at by the clause
  let look : Value → Shared → Prop := fun e t1 => wpAny (model X.prog X.w) X.A (noteFrame e X.env) (fun _ t2 => wpAny (model X.prog X.w) X.A (setFlight e none)
    (fun _ t3 => wpAny (model X.prog X.w) X.A (handleBy e X.env [.ExceptHandler (some (.Name x np)) (some n) (b₀ :: suite) pos']) (SP X pins D) X.xe t3) X.xe t2) X.xe t1
  have caught : Takes (X.tr (X.pn ++ pins) look) (wAsT X.K c i ts Wout D) := by
    intro u s' air
    obtain ⟨a, B, sI, pins', σ', H', cls, d, rfl, K', nb, up, sky, na, os, ag, b, exm, yes, no⟩ := air
    have K0 : Inv X pins σ' H' sI := K'.ofTry okX
    have sky1 : Sky B (X.env :: X.outer) a (Zc cls d) X.env.locals s'.heap := hs ▸ sky
    show wpAny (model X.prog X.w) X.A (noteFrame (.ref a) X.env) _ _ _
    apply Sky.land Zc.steady frames hf sky1
    intro h3 fl3 up3
    have J3 : Inv X pins σ' H' { s' with heap := h3 } := K0.landed nb fl3.1 (up.trans up3) os ag
    obtain ⟨oe3, vs3, at3, z3, data3⟩ := fl3.there
    have offFrames : a ∉ frs (X.env :: X.outer) := fun hm => by
      obtain ⟨_, o', there', hnf⟩ := fl3.2.2.1.mem hm
      rw [at3] at there'
      cases there'
      exact hnf _ data3
    have nL : a ≠ X.env.locals := fun e => offFrames (List.mem_filterMap.mpr ⟨X.env, List.mem_cons_self, by rw [hf, e]⟩)
    have nF : a ∉ X.fs := fun hm => by
      obtain ⟨e, he, q⟩ := List.mem_filterMap.mp hm
      exact offFrames (List.mem_filterMap.mpr ⟨e, List.mem_cons_of_mem _ he, q⟩)
    -- a is new: it stood neither at the try's entry nor at the def's
    have newB : B.get? a = none := fl3.2.1
    have newI : sI.heap.get? a = none := by
      cases q : sI.heap.get? a with
      | none => rfl
      | some o =>
        have := nb a o q (by rw [hs]; exact offFrames)
        rw [newB] at this
        cases this
    have new0 : X.s_0.heap.get? a = none := by
      cases q : X.s_0.heap.get? a with
      | none => rfl
      | some o =>
        obtain ⟨o', q'⟩ := K0.base.there a o q (by rw [hex]; exact List.not_mem_nil)
        rw [newI] at q'
        cases q'
    have apart : ∀ p ∈ X.pn ++ pins, p.1 ≠ a := fun p hp e => by
      have := (K0.pin p hp).1
      rw [e, newI] at this
      cases this
    have S3 := J3.suite at3 data3 na nL nF
    apply wpAny_handleBy_cons _ (by intro q; cases q)
    apply codeAny_handlers_test
    have tyA : PySem.W.Looks (model X.prog X.w) h3 (typeOf (.ref a)) cls := fun A Q E t k q => wpAny_typeOf_ref (k _ _ at3) (by rw [z3.1]; exact q)
    have matched := PySem.W.exm_one (M := model X.prog X.w) (J3.kIn) tyA exm
    have named : ∀ {Q : Value → Shared → Prop} {E : Value → Shared → Prop}, Q c { s' with heap := h3 } → wpAny (model X.prog X.w) (X.A.mark (some (.ref a))) (eval (.Name x np) X.env) Q E { s' with heap := h3 } := by
      intro Q E q
      obtain ⟨hg, hdbg, hm⟩ := hc
      rcases hm with hm | ⟨hm, hv, hnn⟩
      · exact ld_glob (X := X.suite a ((a, oe3) :: (X.pn ++ pins))) S3 hg hm q hdbg
      · exact ld_blt (X := X.suite a ((a, oe3) :: (X.pn ++ pins))) S3 hg hm hv q hnn hdbg
    apply named
    apply matched.here
    cases b with
    | true =>
      apply codeAny_handlers_suite_as
      apply HandSPX.lands_againZ fl3
      intro h4 fl4 up4
      have J4 : Inv X pins σ' H' { s' with heap := h4 } := K0.landed nb fl4.1 ((up.trans up3).trans up4) os ag
      obtain ⟨oe4, vs4, at4, z4, data4⟩ := fl4.there
      have S4 := J4.suite at4 data4 na nL nF
      refine store_ok (X := X.suite a ((a, oe4) :: (X.pn ++ pins))) (v := .ref a) S4 hN hi (.inl hln) rfl (fun s5 S5 => ?_) (.inr hln)
      refine wpAny_mono ((hsu a oe4 cls d (X.pn ++ pins) z4 ⟨_, data4⟩).run [] s5 _ H' _ S5 (yes rfl a na)) (fun f s6 hsp => ?_) (fun _ _ z => z.elim)
      -- out of the suite, the exception still pinned
      have out : ∀ {σ6 : L2.St} {H6 : Hp} {Q : Shared → Prop}, Inv (X.suite a ((a, oe4) :: (X.pn ++ pins))) [] σ6 H6 s6 → (∀ s7, Inv X pins (σ6.set i none) H6 s7 → H6 a = none → s7.heap.get? a = some oe4 → Q s7) →
          wpAny (model X.prog X.w) X.A (do bindName X.env n .none; unbindBehindTheSuite X.env n pos') (fun _ s7 => Q s7) X.xe s6 := fun {σ6 H6 Q} S6 hq => by
        have P6 : Inv X ((a, oe4) :: pins) σ6 H6 s6 := { S6.unsuite okX with
          pin := fun p hp => S6.pin p (by
            rcases List.mem_append.mp hp with hp | hp
            · exact List.mem_append_left _ (List.mem_cons_of_mem _ (List.mem_append_left _ hp))
            · rcases List.mem_cons.mp hp with e | hp
              · rw [e]; exact List.mem_append_left _ List.mem_cons_self
              · exact List.mem_append_left _ (List.mem_cons_of_mem _ (List.mem_append_right _ hp))) }
        refine gone_ok P6 hN hi hln fun s7 P7 => ?_
        have pinned := P7.pin (a, oe4) (List.mem_append_right _ List.mem_cons_self)
        refine hq s7 { P7 with pin := fun p hp => P7.pin p ?_ } pinned.2.1 pinned.1
        rcases List.mem_append.mp hp with hp | hp
        · exact List.mem_append_left _ hp
        · exact List.mem_append_right _ (List.mem_cons_of_mem _ hp)
      match f, hsp with
      | .next, ⟨σ6, H6, S6, q6⟩ => exact out S6 fun s7 J7 n6 a6 => ⟨_, _, track J7 n6 a6 z4 data4 new0 nL apart, q6 n6⟩
      | .brk, ⟨σ6, H6, S6, q6⟩ => exact out S6 fun s7 J7 _ _ => ⟨_, _, J7, q6⟩
      | .cont, ⟨σ6, H6, S6, q6⟩ => exact out S6 fun s7 J7 _ _ => ⟨_, _, J7, q6⟩
      | .ret u, ⟨v6, σ6, H6, S6, r6, q6⟩ => exact out S6 fun s7 J7 _ _ => ⟨_, _, _, J7, r6, q6⟩
    | false =>
      show wpAny _ X.A (handleBy (.ref a) X.env []) _ _ _
      apply wpAny_handleBy_nil
      obtain ⟨_, _, _, oe, vs, T, oT, ts', he, hz, hd, h1, hr⟩ := id fl3
      unfold PySem.passOn
      refine wpAny_bind (wpAny_field he hd h1 ?_)
      rw [if_neg (show ¬ ((Value.ref T == Value.none) = true) from by simp)]
      have on : wpAny (model X.prog X.w) X.A (setFlight (.ref a) X.env.frame) (fun _ s4 => wpAny (model X.prog X.w) X.A (throw (.ref a) : Sem Flow) (SP X pins D) X.xe s4) X.xe { s' with heap := h3 } := by
        rw [hf]
        apply HandSPX.setFlight_upZ fl3
        intro h4 held4 up4
        apply wpAny_throw
        apply tk
        exact ⟨a, B, sI, pins, σ', H', cls, d, rfl, K0, nb, (up.trans up3).trans up4, .inr (.inr (by rw [hs]; exact held4)), na, os, ag, no rfl⟩
      first
        | exact wpAny_bind (wpAny_pure (wpAny_bind on))
        | exact wpAny_bind on
  refine wpAny_mono ((hb (wAsT X.K c i ts Wout D) (X.pn ++ pins) look caught PassesOwn.looking).run [] s0 σ0 H0 D (I0.toTry _) start) (fun f s1 hsp => ?_) (fun e s1 he => he)
  match f, hsp with
  | .next, ⟨σ1, H1, J1, q⟩ => exact wpAny_execs_nil ⟨σ1, H1, J1.ofTry okX, q⟩
  | .brk, ⟨σ1, H1, J1, q⟩ => exact ⟨σ1, H1, J1.ofTry okX, q⟩
  | .cont, ⟨σ1, H1, J1, q⟩ => exact ⟨σ1, H1, J1.ofTry okX, q⟩
  | .ret u, ⟨v, σ1, H1, J1, r, q⟩ => exact ⟨v, σ1, H1, J1.ofTry okX, r, q⟩
end
/-- isinstance of a caught exception that a name holds -/
def rIsX (K : PySem.W.Frag) : List V → Hp → VK → Prop := fun xs H Q => ∃ (a D : Addr) (c : V) (u : Value) (b : Bool), xs = [.ref a, c] ∧ H a = some (ExI (.ref D) none a) ∧ L2.ExcC K D ∧ ClsV c u ∧ PySem.W.kitOne K (.ref D) u = some b ∧ Q (.bl b) H
def rIsXT (K : PySem.W.Frag) : List V → Hp → VK → Prop := fun xs H Q => ∃ (a D tp : Addr) (cs : List V) (us : List Value) (b : Bool), xs = [.ref a, .ref tp] ∧ H a = some (ExI (.ref D) none a) ∧ L2.ExcC K D ∧ H tp = some (.tup cs) ∧ Paired ClsV cs us ∧ PySem.W.kitAny K (.ref D) us = some b ∧ Q (.bl b) H
section
variable {X : Cx} {pins : List (Addr × Obj)} {σ : L2.St} {H : Hp} {s : Shared}
theorem exI_at {a D : Addr} (I : Inv X pins σ H s) (h : H a = some (ExI (.ref D) none a)) : ∃ oe, PySem.W.InstAt s.heap a oe D none := by
  obtain ⟨⟨oe, vs, q1, ⟨q2, q3⟩, q4⟩, _⟩ := I.hok a _ h
  obtain ⟨oc, od, oda, osl⟩ := oe
  dsimp only at q2 q3 q4
  subst q2 q3 q4
  exact ⟨_, q1, rfl, rfl, trivial⟩
theorem call_isX : CallR X (.builtin "isinstance") (rIsX X.K) := by
  intro pins s σ H xs us Q I r h
  obtain ⟨a, D, c, u, b, rfl, hx, C, k, e, q⟩ := h
  obtain ⟨u1, u2, rfl, r1, r2⟩ := vals2 r
  cases r1
  cases k.eq r2
  obtain ⟨oe, J⟩ := exI_at I hx
  exact PySem.W.kia_one (PySem.W.handS_kitx_exc C.hg C.hk C.hs C.hd C.ha C.hn C.ht C.hm) I.kIn J e (fun z => nomatch z) fun tk => ⟨.bl b, H, I.tok tk, rfl, q⟩
theorem call_isXT : CallR X (.builtin "isinstance") (rIsXT X.K) := by
  intro pins s σ H xs us Q I r h
  obtain ⟨a, D, tp, cs, ws, b, rfl, hx, C, hT, k, e, q⟩ := h
  obtain ⟨u1, u2, rfl, r1, r2⟩ := vals2 r
  cases r1
  cases (show u2 = Value.ref tp from r2)
  obtain ⟨oe, J⟩ := exI_at I hx
  obtain ⟨_, its, rv, o, h1, h2, n, h3⟩ := (show ObjOk X.prog X.w H s.heap tp (.tup cs) from I.hok tp _ hT)
  have e3 := ClsV.all k rv
  subst e3
  obtain ⟨oc, od, dt, sl⟩ := o
  simp only at h2 h3
  subst h2 h3
  exact PySem.W.kia_tup (PySem.W.handS_kitx_exc C.hg C.hk C.hs C.hd C.ha C.hn C.ht C.hm) I.kIn J h1 e (fun z => nomatch z) fun tk => ⟨.bl b, H, I.tok tk, rfl, q⟩
end
section
variable {K : PySem.W.Frag} {H : Hp} {Q : VK} {C D : Addr} {b : Bool}
theorem kit_ref (hD : PySem.W.subIn K (.ref D) (.ref D) = some true) (k : ExcK K C) (h : PySem.W.subIn K (.ref D) (.ref C) = some b) : PySem.W.kitOne K (.ref D) (.ref C) = some b := by
  unfold PySem.W.kitOne
  by_cases e : D = C
  · subst e
    rw [hD] at h
    cases h
    rw [if_pos (by simp)]
  · rw [if_neg (by simpa using e)]
    have h2 : (PySem.W.clsIn K C).isSome = true := k.i
    show (if ((PySem.W.clsIn K C).isSome && PySem.W.typeIn K (.ref C) == some (.type "type")) = true then PySem.W.subIn K (.ref D) (.ref C) else none) = some b
    rw [if_pos (by rw [h2, k.t]; rfl)]
    exact h
theorem kit_typ {T : String} (hm : PySem.W.kitMeta T = true) (h : PySem.W.subIn K (.ref D) (.type T) = some b) : PySem.W.kitOne K (.ref D) (.type T) = some b := by
  unfold PySem.W.kitOne
  rw [if_neg (by simp)]
  show (if PySem.W.kitMeta T = true then PySem.W.subIn K (.ref D) (.type T) else none) = some b
  rw [if_pos hm]
  exact h
theorem L_isX {a : Addr} {c : V} {u : Value} (h : H a = some (ExI (.ref D) none a)) (C : L2.ExcC K D) (k : ClsV c u) (e : PySem.W.kitOne K (.ref D) u = some b) (q : Q (.bl b) H) : rIsX K [.ref a, c] H Q := ⟨a, D, c, u, b, rfl, h, C, k, e, q⟩
theorem L_isXT {a tp : Addr} {cs : List V} {us : List Value} (h : H a = some (ExI (.ref D) none a)) (C : L2.ExcC K D) (hT : H tp = some (.tup cs)) (k : Paired ClsV cs us) (e : PySem.W.kitAny K (.ref D) us = some b) (q : Q (.bl b) H) : rIsXT K [.ref a, .ref tp] H Q := ⟨a, D, tp, cs, us, b, rfl, h, C, hT, k, e, q⟩
theorem kit_none : ∀ {us : List Value}, (∀ u ∈ us, PySem.W.kitOne K (.ref D) u = some false) → PySem.W.kitAny K (.ref D) us = some false
  | [], _ => rfl
  | u :: us, h => by
    unfold PySem.W.kitAny
    rw [h u (List.mem_cons_self ..)]
    exact kit_none fun x hx => h x (List.mem_cons_of_mem _ hx)
theorem L_asT {c : Value} {i : Nat} {ts : Addr → Value → Option Addr → TS} {Wout : WX} {D : Ends} {σ : L2.St} {cls : Value} {d : Option Addr} (h : PySem.W.exmOne K cls c = some true)
    (q : ∀ a, H a = none → ts a cls d ⟨fun σ' H' => H' a = none → D.nx (σ'.set i none) (upd H' a (ExI cls d a)), D.rt, fun σ' H' => D.bk (σ'.set i none) H', fun σ' H' => D.ct (σ'.set i none) H'⟩ (σ.set i (some (.ref a))) H) : wAsT K c i ts Wout D cls d σ H :=
  ⟨true, h, fun _ => q, fun z => nomatch z⟩
end
/-! ### lists of numbers, and what is none -/
def BadNs (K : PySem.W.Frag) (H : Hp) (v : V) (lo hi : Int) : Prop := NotL K H v ∨ ∃ a xs, v = .ref a ∧ SqL K H a xs ∧ (24 < xs.length ∨ ((∀ x ∈ xs, (∃ t, x = .int t ∧ lo ≤ t ∧ t ≤ hi) ∨ BadW K H x lo hi) ∧ ∃ x ∈ xs, BadW K H x lo hi))
def GoodNs (K : PySem.W.Frag) (H : Hp) (v : V) (ts : List Int) (lo hi : Int) : Prop := ∃ a, v = .ref a ∧ SqL K H a (ts.map V.int) ∧ ts.length ≤ 24 ∧ ∀ t ∈ ts, lo ≤ t ∧ t ≤ hi
section
variable {K : PySem.W.Frag} {H H' : Hp} {v : V} {lo hi : Int} {ts : List Int}
theorem BadNs.same (h : BadNs K H v lo hi) (e : Same H H') : BadNs K H' v lo hi := by
  rcases h with h | ⟨a, xs, h1, h2, h3⟩
  · exact .inl (h.same e)
  · refine .inr ⟨a, xs, h1, e.seq h2, ?_⟩
    rcases h3 with h3 | ⟨h3, x, h4, h5⟩
    · exact .inl h3
    · exact .inr ⟨fun x hx => (h3 x hx).imp id fun b => b.same e, x, h4, h5.same e⟩
theorem GoodNs.same (h : GoodNs K H v ts lo hi) (e : Same H H') : GoodNs K H' v ts lo hi := by
  obtain ⟨a, h1, h2, h3, h4⟩ := h
  exact ⟨a, h1, e.seq h2, h3, h4⟩
theorem bad_one {a : Addr} {x : V} (h : H a = some (.lst [x])) (b : BadW K H x lo hi) : BadNs K H (.ref a) lo hi := .inr ⟨a, _, rfl, .of h, .inr ⟨fun y hy => by rw [List.mem_singleton.mp hy]; exact .inr b, x, List.mem_singleton.mpr rfl, b⟩⟩
theorem good_ns {a : Addr} (h : H a = some (.lst (ts.map V.int))) (hl : ts.length ≤ 24) (hb : ∀ t ∈ ts, lo ≤ t ∧ t ≤ hi) : GoodNs K H (.ref a) ts lo hi := ⟨a, rfl, .of h, hl, hb⟩
theorem int_of_mem {x : V} (h : x ∈ ts.map V.int) : ∃ t ∈ ts, x = .int t := by
  obtain ⟨t, h1, h2⟩ := List.mem_map.mp h
  exact ⟨t, h1, h2.symm⟩
theorem getD_of {i : Nat} {t : Int} (h : ts[i]? = some t) : ts.getD i 0 = t := by rw [List.getD_eq_getElem?_getD, h]; rfl
theorem fm_int {f : Nat → Option Int} {n : Nat} : (List.range n).filterMap (fun i => (f i).map V.int) = ((List.range n).filterMap f).map V.int := by
  rw [List.map_filterMap]
end
/-- pairs of ints as data -/
def d2 (r : Int × Int) : PyData := .tuple [.int r.1, .int r.2]
section
variable {K : PySem.W.Frag} {H : Hp} {v : V} {us : List V} {rows : List (Int × Int)}
theorem of_d2 {r : Int × Int} (h : Dp K H v (d2 r)) : ∃ a, v = .ref a ∧ SqT K H a [.int r.1, .int r.2] := by
  obtain ⟨a, x, y, rfl, h1, h2, h3⟩ := of_t2 h
  rw [of_int h2, of_int h3] at h1
  exact ⟨a, rfl, h1⟩
theorem hit2 (hA : DpAll K H us (rows.map d2)) {i : Nat} {x : V} (hx : us[i]? = some x) : ∃ r t, rows[i]? = some r ∧ x = V.ref t ∧ SqT K H t [.int r.1, .int r.2] := by
  obtain ⟨d, h1, h2⟩ := hA.of hx
  rw [List.getElem?_map] at h1
  obtain ⟨r, h3, rfl⟩ := Option.map_eq_some_iff.mp h1
  obtain ⟨t, rfl, h4⟩ := of_d2 h2
  exact ⟨r, t, h3, rfl, h4⟩
theorem shp_d2s : SeqAt.shaped (.list (rows.map d2)) = true := (shp_lst (n := 1) (shp_map fun r _ => shp_tup (n := 0) (shp_cons shp_int (shp_cons shp_int shp_nil)))).ok
end
theorem cutG_take {α : Type} (xs : List α) (n : Nat) : cutG xs none (some (n : Int)) = xs.take n := by
  unfold cutG
  rw [HT.sIx_none, HT.sIx_nat, List.drop_zero, Nat.sub_zero]
  rcases Nat.le_total n xs.length with h | h
  · rw [Nat.min_eq_left h]
  · rw [Nat.min_eq_right h, List.take_of_length_le (Nat.le_refl _), List.take_of_length_le h]
theorem cutG_drop {α : Type} (xs : List α) (n : Nat) : cutG xs (some (n : Int)) none = xs.drop n := by
  unfold cutG
  rw [HT.sIx_none, HT.sIx_nat]
  rcases Nat.le_total n xs.length with h | h
  · rw [Nat.min_eq_left h, List.take_of_length_le (by rw [List.length_drop]; exact Nat.le_refl _)]
  · rw [Nat.min_eq_right h, List.drop_of_length_le (Nat.le_refl _), List.drop_of_length_le h, List.take_nil]
theorem strOk_lit {z : Str} (h : PyData.strOk z = true) : PyData.strOk z = true := h
theorem dpa_app {K : PySem.W.Frag} {H : Hp} : ∀ {ds es : List PyData} {vs us : List V}, DpAll K H (vs ++ us) (ds ++ es) → vs.length = ds.length → DpAll K H vs ds ∧ DpAll K H us es
  | [], _, [], _, h, _ => ⟨.nil, h⟩
  | [], _, _ :: _, _, _, e => by simp at e
  | _ :: _, _, [], _, _, e => by simp at e
  | d :: ds, _, v :: vs, _, h, e => by
    cases h with
    | cons h1 h2 =>
      obtain ⟨a, b⟩ := dpa_app h2 (by simpa using e)
      exact ⟨.cons h1 a, b⟩
theorem nn_ints_or {K : PySem.W.Frag} {H : Hp} {x : V} {ts : List Int} {lo hi : Int} (hb : ∀ t ∈ ts, lo ≤ t ∧ t ≤ hi) (h : x ∈ ts.map V.int) : (∃ t, x = .int t ∧ lo ≤ t ∧ t ≤ hi) ∨ BadW K H x lo hi := by
  obtain ⟨t, ht, e⟩ := int_of_mem h
  exact .inl ⟨t, e, hb t ht⟩
theorem rep_len {α : Type} (xs : List α) : ∀ n : Nat, (List.replicate n xs).flatten.length = n * xs.length
  | 0 => by simp
  | n + 1 => by rw [List.replicate_succ, List.flatten_cons, List.length_append, rep_len xs n, Nat.succ_mul, Nat.add_comm]
/-! ### exceptions whose own __init__ asks their base's by its name -/
/-- S.__init__, S an own class, is ValueError's -/
structure BaseI (K : PySem.W.Frag) (S : Addr) : Prop where
  rd : PySem.W.readsIn K S (.type "type") = true
  ga : PySem.W.specialIn K (.ref S) "__getattribute__" = some (some (.builtin "type.__getattribute__"))
  vi : PySem.W.findCls K (.ref S) (.type "type") "__init__" = some (.val (.builtin "ValueError.__init__"))
structure XIniAt (K : PySem.W.Frag) (C : Addr) (qual : Str) (st : Stmt) (ps : List Str) : Prop where
  ex : ∃ (f : Addr) (fd : FuncData), Fun K "__init__" qual st f fd ∧ PySem.W.findIn K (.ref C) "__init__" = some (some (.ref f)) ∧ PySem.W.isFn K (.ref f) = true ∧ Binds K fd ps []
/-- an exception that may be made by its class's name -/
structure XMak (P : Program) (w : World) (K : PySem.W.Frag) (mg : Str → Option Value) (base : Heap) (k : Nat) (x : Str) (C : Addr) (sp : Sp) : Prop where
  ex : ∃ (f : Addr) (fd : FuncData) (ps : List Str), FnOk P w K mg base CX0 k f fd ps sp ∧ PySem.W.findIn K (.ref C) "__init__" = some (some (.ref f)) ∧ PySem.W.typeIn K (.ref f) = some (.type "function") ∧ mg x = some (.ref C) ∧ Binds K fd ps []
section
variable {P : Program} {w : World} {K : PySem.W.Frag} {mg : Str → Option Value} {base : Heap}
theorem XIniAt.xmak {x : Str} {C : Addr} {qual : Str} {st : Stmt} {N ps : List Str} {k : Nat} {sp : Sp} (hx : mg x = some (.ref C)) (d : XIniAt K C qual st ps) (S : FnScope N ps (defScope st)) (len : ∀ vs H Q E, sp vs H Q E → vs.length = ps.length)
    (hbody : ∀ (f : Addr) (cdv : Value) (A : Around) (outer : List Env) (s : Shared) (H : Hp) (vs : List V) (Q : VK) (E : XK), Room k (A.deeper (envOfC qual (defScope st) s.heap.objs.size f cdv)) → sp vs H Q E →
      ∃ t, PSs (cxOf CX0 P w K mg base N qual (defScope st) f cdv A outer s H E).nox (defBody st) t ∧ t { nx := fun _ H' => Q .non H', rt := Q } (start N vs) H) : XMak P w K mg base (k + 1) x C sp := by
  obtain ⟨f, fd, F, h1, h2, b⟩ := d.ex
  exact ⟨f, fd, ps, F.ok S len (hbody f), h1, beq_iff_eq.mp h2, hx, b⟩
end
section
variable {X : Cx} {k j : Nat} {C S : Addr} {x : Str} {sp : Sp} {p p1 p2 pos : Pos} {e : Expr} {es : List Expr} {ta : TA}
theorem pmk_x (c : XMak X.prog X.w X.K X.mg X.base k x C sp) (T : OexC X.K C) (hr : Room j X.A) (hk : k + 1 ≤ j) (hg : Gl X x) (ha : PA X (e :: es) ta)
    (hdb : (x == ("__debug__" : Str)) = false := by decide) (he : starEach (e :: es) X.env = (false, eval e X.env) :: starEach es X.env := by rfl) (hpl : (backTo pos (starEach es X.env)).any (·.1) = false := by rfl) :
    PMk X (.Call (.Name x p) (e :: es) [] pos) (tMkO C sp [] ta) := by
  obtain ⟨f, fd, ps, F, h1, h2, hm, b⟩ := c.ex
  exact pmk_oex T h1 h2 F (hr.mono hk) b .nil pass0 hg hm ha hdb he hpl
theorem pe_baseI {pl : Sem Bool} (hg : Gl X x) (hm : X.mg x = some (.ref S)) (B : BaseI X.K S) (ha : PA X (e :: es) ta)
    (hc : eval (.Call (.Attribute (.Name x p1) "__init__" p2) (e :: es) [] pos) X.env = (do
      let ov ← eval (.Name x p1) X.env
      standAt p2.atName
      let (f, first) ← holding [ov] (getMethod ov "__init__" pl)
      callWith pos f first (backTo pos (starEach (e :: es) X.env)) (backToKw pos (keywordEach [] X.env))) := by rfl)
    (hdb : (x == ("__debug__" : Str)) = false := by decide) (he : starEach (e :: es) X.env = (false, eval e X.env) :: starEach es X.env := by rfl) (hpl : (backTo pos (starEach es X.env)).any (·.1) = false := by rfl) :
    PE X (.Call (.Attribute (.Name x p1) "__init__" p2) (e :: es) [] pos) (tVeI X.K ta) := by
  constructor
  intro pins s σ H Q I h
  have asked : ∀ s1, Inv X pins σ H s1 → wpAny (model X.prog X.w) X.A (callWith pos (Value.builtin "ValueError.__init__") [] (backTo pos (starEach (e :: es) X.env)) []) (EP X pins σ Q) X.xe s1 := fun s1 I1 =>
    PyProof.Rows.callWith_method1 (thn (ha.run pos pins s1 σ H _ I1 h) fun us s2 ⟨vs, H2, I2, r, a, D, ws, evs, few, T, atA, q⟩ => by
      subst evs
      cases r with
      | @cons _ u0 _ ur r0 rr =>
        obtain rfl : u0 = Value.ref a := r0
        have few' : ur.length ≤ sizeLine := by
          have := Paired.length rr
          have := sizeLine_eq
          omega
        exact oinit_ok T I2 atA few' fun s3 I3 => ⟨.non, H2, I3, rfl, q⟩) he hpl
  refine PySem.W.methodCall_KW (ld_glob I hg hm ?_ hdb) hc
  refine PySem.W.method_cls I.kIn B.ga (PySem.W.cls_value I.kIn B.rd B.vi (by decide +kernel) ?_)
  exact asked _ (I.tok _)
end
section
variable {K : PySem.W.Frag} {σ : L2.St} {H : Hp} {D : Ends} {C a : Addr} {f : Str} {y : V} {ta : TA} {te to : TE}
theorem L_veI {R : Hp → Prop} {ws : List V} (T : OexC K C) (h : H a = some (exo a C none)) (l : ws.length ≤ 1000) (q : R H) : ∃ (a' C : Addr) (ws' : List V), V.ref a :: ws = .ref a' :: ws' ∧ ws'.length ≤ 1000 ∧ OexC K C ∧ H a' = some (exo a' C none) ∧ R H := ⟨a, C, ws, rfl, l, T, h, q⟩
theorem L_tveI {Q : VK} (h : ta σ H fun vs H1 => ∃ (a C : Addr) (ws : List V), vs = .ref a :: ws ∧ ws.length ≤ 1000 ∧ OexC K C ∧ H1 a = some (exo a C none) ∧ Q .non H1) : tVeI K ta σ H Q := h
theorem L_ost (h : te σ H fun y H1 => to σ H1 fun x H2 => ∃ a C : Addr, x = .ref a ∧ OexC K C ∧ PySem.W.findIn K (.ref C) f = some none ∧
  ((H2 a = some (exo a C none) ∧ ∀ dx, H2 dx = none → dx ≠ a → D.nx σ (upd (upd H2 dx (exd dx [(f, y)])) a (exo a C (some dx)))) ∨
    ∃ (dx : Addr) (fs : List (Str × V)), H2 a = some (exo a C (some dx)) ∧ H2 dx = some (exd dx fs) ∧ fs.length ≤ 900 ∧ D.nx σ (upd H2 dx (exd dx ((f, y) :: fs))))) : tOst K f to te D σ H := h
theorem L_ost1 {R : Hp → Prop} (T : OexC K C) (nf : PySem.W.findIn K (.ref C) f = some none) (h : H a = some (exo a C none)) (q : ∀ dx, H dx = none → dx ≠ a → R (upd (upd H dx (exd dx [(f, y)])) a (exo a C (some dx)))) :
    ∃ a' C : Addr, V.ref a = .ref a' ∧ OexC K C ∧ PySem.W.findIn K (.ref C) f = some none ∧
  ((H a' = some (exo a' C none) ∧ ∀ dx, H dx = none → dx ≠ a' → R (upd (upd H dx (exd dx [(f, y)])) a' (exo a' C (some dx)))) ∨
    ∃ (dx : Addr) (fs : List (Str × V)), H a' = some (exo a' C (some dx)) ∧ H dx = some (exd dx fs) ∧ fs.length ≤ 900 ∧ R (upd H dx (exd dx ((f, y) :: fs)))) := ⟨a, C, rfl, T, nf, .inl ⟨h, q⟩⟩
/-- what an __init__ with one field keeps -/
def XIni1 (C : Addr) (f : Str) (a : Addr) (v : V) (H : Hp) (Q : VK) : Prop := H a = some (exo a C none) ∧ ∀ d, H d = none → d ≠ a → Q .non (upd (upd H d (exd d [(f, v)])) a (exo a C (some d)))
/-- C(v) is raised -/
theorem L_mkO1 {sp : Sp} {E : XK} {v : V} (hs : ∀ a H Q E, XIni1 C f a v H Q → sp [.ref a, v] H Q E) (q : ∀ d, H d = none → E (.ref C) (some d) (upd H d (.xd [(f, v)]))) : [v].length ≤ 1000 ∧ ∀ a, H a = none → sp (.ref a :: ([v] ++ [])) (upd H a (exo a C none))
  (fun v H2 => v = .non ∧ ∃ (d : Addr) (fs : List (Str × V)), H2 a = some (exo a C (some d)) ∧ H2 d = some (exd d fs) ∧ H d = none ∧ E (.ref C) (some d) (upd (del H2 a) d (.xd fs))) (fun _ _ _ => False) := by
  refine ⟨by rw [List.length_singleton]; decide, fun a na => hs a _ _ _ ⟨upd_same, fun d nd ne => ⟨rfl, d, [(f, v)], upd_same, ?_, ?_, ?_⟩⟩⟩
  · rw [upd_ne ne, upd_same]
  · rw [upd_ne ne] at nd
    exact nd
  · rw [upd_ne ne] at nd
    have z : upd (del (upd (upd (upd H a (exo a C none)) d (exd d [(f, v)])) a (exo a C (some d))) a) d (.xd [(f, v)]) = upd H d (.xd [(f, v)]) := by
      funext b
      by_cases hb : b = d
      · rw [hb, upd_same, upd_same]
      · rw [upd_ne hb, upd_ne hb]
        by_cases ha : b = a
        · rw [ha, del_same, na]
        · rw [del_ne ha, upd_ne ha, upd_ne hb, upd_ne ha]
    rw [z]
    exact q d nd
theorem L_mkO {sp : Sp} {dvs : List V} {Q : XK} (h : ta σ H fun vs H1 => vs.length ≤ 1000 ∧ ∀ a, H1 a = none → sp (.ref a :: (vs ++ dvs)) (upd H1 a (exo a C none))
  (fun v H2 => v = .non ∧ ∃ (d : Addr) (fs : List (Str × V)), H2 a = some (exo a C (some d)) ∧ H2 d = some (exd d fs) ∧ H1 d = none ∧ Q (.ref C) (some d) (upd (del H2 a) d (.xd fs))) (fun _ _ _ => False)) : tMkO C sp dvs ta σ H Q := h
end
/-- isinstance(e, c) in e's own suite, whatever its dict -/
def rIsS (K : PySem.W.Frag) (a : Addr) (cls : Value) (d : Option Addr) : List V → Hp → VK → Prop := fun xs H Q => ∃ (D : Addr) (c : V) (u : Value) (b : Bool), xs = [.ref a, c] ∧ cls = .ref D ∧ (∀ dd, d = some dd → ∃ fs, H dd = some (.xd fs)) ∧ L2.ExcC K D ∧ ClsV c u ∧ PySem.W.kitOne K (.ref D) u = some b ∧ Q (.bl b) H
theorem call_isS {X : Cx} {a : Addr} {cls : Value} {d : Option Addr} {oe : Obj} {pn : List (Addr × Obj)} (hz : Zc cls d oe) (hf : ∃ vs, oe.data = .fields vs) : CallR (X.suite a ((a, oe) :: pn)) (.builtin "isinstance") (rIsS X.K a cls d) := by
  intro pins s σ H xs us Q I r h
  obtain ⟨D, c, u, b, rfl, rfl, hd, C, k, e, q⟩ := h
  obtain ⟨u1, u2, rfl, r1, r2⟩ := vals2 r
  cases r1
  cases k.eq r2
  obtain ⟨there, _⟩ := I.pin (a, oe) (List.mem_append_left _ List.mem_cons_self)
  obtain ⟨vs, data⟩ := hf
  have J : ∃ od, PySem.W.InstAt s.heap a oe D od := by
    have nc : PySem.W.notCls oe = true := by unfold PySem.W.notCls; rw [data] <;> rfl
    cases d with
    | none => exact ⟨none, there, hz.1, nc, by rw [hz.2]; exact True.intro⟩
    | some dd =>
      obtain ⟨fs, hdd⟩ := hd dd rfl
      obtain ⟨mA, ⟨o, es, ep, ho, _⟩, _⟩ := (show ObjOk X.prog X.w H s.heap dd (.xd fs) from I.hok dd _ hdd)
      exact ⟨some o, there, hz.1, nc, by rw [hz.2]; exact ho⟩
  obtain ⟨od, J⟩ := J
  obtain ⟨cd, hcd, _⟩ := PySem.W.any_some C.hd
  exact PySem.W.kia_one (PySem.W.kitx_exc (show (PySem.W.clsIn _ D).isSome = true by rw [hcd]; rfl) C.hg C.hk C.hs C.ha C.hn C.ht C.hm) I.kIn J e (fun z => nomatch z) fun tk => ⟨.bl b, H, I.tok tk, rfl, q⟩
theorem L_isS {K : PySem.W.Frag} {H : Hp} {Q : VK} {a D : Addr} {d : Option Addr} {c : V} {u : Value} {b : Bool} (hd : ∀ dd, d = some dd → ∃ fs, H dd = some (.xd fs)) (C : L2.ExcC K D) (k : ClsV c u) (e : PySem.W.kitOne K (.ref D) u = some b) (q : Q (.bl b) H) : rIsS K a (.ref D) d [.ref a, c] H Q := ⟨D, c, u, b, rfl, rfl, hd, C, k, e, q⟩
/-- the same, of some classes -/
def rIsST (K : PySem.W.Frag) (a : Addr) (cls : Value) (d : Option Addr) : List V → Hp → VK → Prop := fun xs H Q => ∃ (D tp : Addr) (cs : List V) (ws : List Value) (b : Bool), xs = [.ref a, .ref tp] ∧ cls = .ref D ∧ (∀ dd, d = some dd → ∃ fs, H dd = some (.xd fs)) ∧ L2.ExcC K D ∧ H tp = some (.tup cs) ∧ Paired ClsV cs ws ∧ PySem.W.kitAny K (.ref D) ws = some b ∧ Q (.bl b) H
theorem call_isST {X : Cx} {a : Addr} {cls : Value} {d : Option Addr} {oe : Obj} {pn : List (Addr × Obj)} (hz : Zc cls d oe) (hf : ∃ vs, oe.data = .fields vs) : CallR (X.suite a ((a, oe) :: pn)) (.builtin "isinstance") (rIsST X.K a cls d) := by
  intro pins s σ H xs us Q I r h
  obtain ⟨D, tp, cs, ws, b, rfl, rfl, hd, C, hT, k, e, q⟩ := h
  obtain ⟨u1, u2, rfl, r1, r2⟩ := vals2 r
  cases r1
  cases (show u2 = Value.ref tp from r2)
  obtain ⟨there, _⟩ := I.pin (a, oe) (List.mem_append_left _ List.mem_cons_self)
  obtain ⟨vs, data⟩ := hf
  have J : ∃ od, PySem.W.InstAt s.heap a oe D od := by
    have nc : PySem.W.notCls oe = true := by unfold PySem.W.notCls; rw [data] <;> rfl
    cases d with
    | none => exact ⟨none, there, hz.1, nc, by rw [hz.2]; exact True.intro⟩
    | some dd =>
      obtain ⟨fs, hdd⟩ := hd dd rfl
      obtain ⟨mA, ⟨o, es, ep, ho, _⟩, _⟩ := (show ObjOk X.prog X.w H s.heap dd (.xd fs) from I.hok dd _ hdd)
      exact ⟨some o, there, hz.1, nc, by rw [hz.2]; exact ho⟩
  obtain ⟨od, J⟩ := J
  obtain ⟨_, its, rv, o, h1, h2, n, h3⟩ := (show ObjOk X.prog X.w H s.heap tp (.tup cs) from I.hok tp _ hT)
  have e3 := ClsV.all k rv
  subst e3
  obtain ⟨oc, od2, dt, sl⟩ := o
  simp only at h2 h3
  subst h2 h3
  obtain ⟨cd, hcd, _⟩ := PySem.W.any_some C.hd
  exact PySem.W.kia_tup (PySem.W.kitx_exc (show (PySem.W.clsIn _ D).isSome = true by rw [hcd]; rfl) C.hg C.hk C.hs C.ha C.hn C.ht C.hm) I.kIn J h1 e (fun z => nomatch z) fun tk => ⟨.bl b, H, I.tok tk, rfl, q⟩
theorem L_isST {K : PySem.W.Frag} {H : Hp} {Q : VK} {a D tp : Addr} {d : Option Addr} {cs : List V} {ws : List Value} {b : Bool} (hd : ∀ dd, d = some dd → ∃ fs, H dd = some (.xd fs)) (C : L2.ExcC K D) (hT : H tp = some (.tup cs)) (k : Paired ClsV cs ws) (e : PySem.W.kitAny K (.ref D) ws = some b) (q : Q (.bl b) H) : rIsST K a (.ref D) d [.ref a, .ref tp] H Q := ⟨D, tp, cs, ws, b, rfl, rfl, hd, C, hT, k, e, q⟩
/-- one of two derivations -/
def tOrE (t1 t2 : TE) : TE := fun σ H Q => t1 σ H Q ∨ t2 σ H Q
theorem PE.or {X : Cx} {e : Expr} {t1 t2 : TE} (h1 : PE X e t1) (h2 : PE X e t2) : PE X e (tOrE t1 t2) :=
  ⟨fun pins s σ H Q I h => h.elim (fun h => h1.run pins s σ H Q I h) (fun h => h2.run pins s σ H Q I h)⟩
/-- what isinstance asks of an instance's own class; of the class it is asked of -/
structure InsC (K : PySem.W.Frag) (C : Addr) : Prop where
  ha : PySem.W.findIn K (.ref C) "__class__" = some (some (.builtin "object.__class__"))
  hn : PySem.W.specialIn K (.builtin "object.__class__") "__get__" = some (some (.builtin "getset_descriptor.__get__"))
  ht : PySem.W.takesIn K (.builtin "object.__class__") = some true
  hm : PySem.W.mroIn K C (.type "object") = some true
structure ClsT (K : PySem.W.Frag) (C : Addr) : Prop where
  i : PySem.W.isClsIn K C = true
  t : PySem.W.typeIn K (.ref C) = some (.type "type")
theorem tyx_I {K : PySem.W.Frag} {H : Hp} {a C dx : Addr} {fs : List (Str × V)} (h : H a = some (.ins C dx fs)) (cl : Cls K C) (c : InsC K C) : TyX K H (.ref a) (.ref C) := .base (.ins h cl c.ha c.hn c.ht c.hm)
theorem kit_own {K : PySem.W.Frag} {C D : Addr} {b : Bool} (hD : PySem.W.subIn K (.ref D) (.ref D) = some true) (k : ClsT K C) (h : PySem.W.subIn K (.ref D) (.ref C) = some b) : PySem.W.kitOne K (.ref D) (.ref C) = some b := by
  unfold PySem.W.kitOne
  by_cases e : D = C
  · subst e
    rw [hD] at h
    cases h
    rw [if_pos (by simp)]
  · rw [if_neg (by simpa using e)]
    have h2 : (PySem.W.clsIn K C).isSome = true := k.i
    show (if ((PySem.W.clsIn K C).isSome && PySem.W.typeIn K (.ref C) == some (.type "type")) = true then PySem.W.subIn K (.ref D) (.ref C) else none) = some b
    rw [if_pos (by rw [h2, k.t]; rfl)]
    exact h
theorem kit_not {K : PySem.W.Frag} {T : String} {C : Addr} {b : Bool} (k : ClsT K C) (h : PySem.W.subIn K (.type T) (.ref C) = some b) : PySem.W.kitOne K (.type T) (.ref C) = some b := by
  unfold PySem.W.kitOne
  rw [if_neg (by simp)]
  have h2 : (PySem.W.clsIn K C).isSome = true := k.i
  show (if ((PySem.W.clsIn K C).isSome && PySem.W.typeIn K (.ref C) == some (.type "type")) = true then PySem.W.subIn K (.type T) (.ref C) else none) = some b
  rw [if_pos (by rw [h2, k.t]; rfl)]
  exact h
theorem L_orl {t1 t2 : TE} {σ : L2.St} {H : Hp} {Q : VK} (h : t1 σ H Q) : tOrE t1 t2 σ H Q := .inl h
theorem L_orr {t1 t2 : TE} {σ : L2.St} {H : Hp} {Q : VK} (h : t2 σ H Q) : tOrE t1 t2 σ H Q := .inr h
theorem L_xf {a C : Addr} {cls : Value} {d : Option Addr} {f : Str} {te : TE} {σ : L2.St} {H : Hp} {Q : VK} (h : te σ H fun x H1 => x = .ref a ∧ cls = .ref C ∧ ∃ (dd : Addr) (fs : List (Str × V)) (v : V), d = some dd ∧ H1 dd = some (.xd fs) ∧ fs.lookup f = some v ∧ Q v H1) : tXf a cls d C f te σ H Q := h
theorem ExcC.xf {K : PySem.W.Frag} {C : Addr} (c : L2.ExcC K C) : XfC K C := ⟨c.hg, c.hk, c.hs, c.hd⟩
theorem L_isC {K : PySem.W.Frag} {H : Hp} {Q : VK} {x : V} {T : Value} {C : Addr} {b : Bool} (ty : TyX K H x T) (e : PySem.W.kitOne K T (.ref C) = some b) (q : Q (.bl b) H) : rIsi K [x, .ref C] H Q := ⟨x, .ref C, T, .ref C, b, rfl, .own C, ty, e, q⟩
theorem L_str1 {H : Hp} {Q : VK} {t : Int} (h : 0 ≤ t ∧ t ≤ 1000) (q : Q (.str (toString t)) H) : aStr1 [.int t] H Q := ⟨t, rfl, by have := Nat.log2_le_self t.natAbs; omega, q⟩
theorem str_short : ∀ t : Int, 0 ≤ t → t ≤ 100 → (↑(toString t) : Str).length ≤ 3 := by
  have h : ∀ n ∈ List.range 101, (↑(toString ((n : Nat) : Int)) : Str).length ≤ 3 := by decide +kernel
  intro t h0 h1
  have := h t.toNat (List.mem_range.mpr (by omega))
  rwa [Int.toNat_of_nonneg h0] at this

/-! ### exceptions held as values -/
/-- at a: an exception of the own class D, not raised; fs: its own fields -/
def XVal (H : Hp) (a D : Addr) (fs : List (Str × V)) : Prop := (fs = [] ∧ H a = some (ExI (.ref D) none a)) ∨ ∃ d, H a = some (exo a D (some d)) ∧ H d = some (exd d fs)
theorem XVal.same {H H' : Hp} {a D : Addr} {fs : List (Str × V)} (h : XVal H a D fs) (s : Same H H') : XVal H' a D fs := by
  rcases h with ⟨h1, h2⟩ | ⟨d, h1, h2⟩
  · exact .inl ⟨h1, s _ _ h2⟩
  · exact .inr ⟨d, s _ _ h1, s _ _ h2⟩
theorem xval_inst {X : Cx} {pins : List (Addr × Obj)} {σ : L2.St} {H : Hp} {s : Shared} {a D : Addr} {fs : List (Str × V)} (I : Inv X pins σ H s) (h : XVal H a D fs) : ∃ oe od, PySem.W.InstAt s.heap a oe D od := by
  rcases h with ⟨_, h⟩ | ⟨d, h1, h2⟩
  · obtain ⟨oe, J⟩ := exI_at I h
    exact ⟨oe, none, J⟩
  · obtain ⟨t1, ho⟩ := exo_at I.hok h1
    obtain ⟨mA, ⟨o, _, _, hd, _⟩, _⟩ := exd_at I.hok h2
    exact ⟨_, some o, ho, rfl, rfl, hd⟩
def rIsV (K : PySem.W.Frag) : List V → Hp → VK → Prop := fun xs H Q => ∃ (a D : Addr) (fs : List (Str × V)) (c : V) (u : Value) (b : Bool), xs = [.ref a, c] ∧ XVal H a D fs ∧ L2.ExcC K D ∧ ClsV c u ∧ PySem.W.kitOne K (.ref D) u = some b ∧ Q (.bl b) H
theorem call_isV {X : Cx} : CallR X (.builtin "isinstance") (rIsV X.K) := by
  intro pins s σ H xs us Q I r h
  obtain ⟨a, D, fs, c, u, b, rfl, hx, C, k, e, q⟩ := h
  obtain ⟨u1, u2, rfl, r1, r2⟩ := vals2 r
  cases r1
  cases k.eq r2
  obtain ⟨oe, od, J⟩ := xval_inst I hx
  obtain ⟨cd, hcd, _⟩ := PySem.W.any_some C.hd
  exact PySem.W.kia_one (PySem.W.kitx_exc (show (PySem.W.clsIn _ D).isSome = true by rw [hcd]; rfl) C.hg C.hk C.hs C.ha C.hn C.ht C.hm) I.kIn J e (fun z => nomatch z) fun tk => ⟨.bl b, H, I.tok tk, rfl, q⟩
theorem L_isV {K : PySem.W.Frag} {H : Hp} {Q : VK} {a D : Addr} {fs : List (Str × V)} {c : V} {u : Value} {b : Bool} (h : XVal H a D fs) (C : L2.ExcC K D) (k : ClsV c u) (e : PySem.W.kitOne K (.ref D) u = some b) (q : Q (.bl b) H) : rIsV K [.ref a, c] H Q := ⟨a, D, fs, c, u, b, rfl, h, C, k, e, q⟩
/-- e.f, e such a value -/
def tXv (K : PySem.W.Frag) (f : Str) (te : TE) : TE := fun σ H Q => te σ H fun x H1 => ∃ (a D d : Addr) (fs : List (Str × V)) (v : V), x = .ref a ∧ L2.ExcC K D ∧ PySem.W.findIn K (.ref D) f = some none ∧ H1 a = some (exo a D (some d)) ∧ H1 d = some (exd d fs) ∧ fs.lookup f = some v ∧ Q v H1
theorem L_xv {K : PySem.W.Frag} {f : Str} {te : TE} {σ : L2.St} {H : Hp} {Q : VK} (h : te σ H fun x H1 => ∃ (a D d : Addr) (fs : List (Str × V)) (v : V), x = .ref a ∧ L2.ExcC K D ∧ PySem.W.findIn K (.ref D) f = some none ∧ H1 a = some (exo a D (some d)) ∧ H1 d = some (exd d fs) ∧ fs.lookup f = some v ∧ Q v H1) : tXv K f te σ H Q := h
theorem pe_xv {X : Cx} {e : Expr} {te : TE} {f : Str} {pos : Pos} (he : PE X e te) (hb : attributeBase e f X.env (eval e X.env) = eval e X.env := by rfl) : PE X (.Attribute e f pos) (tXv X.K f te) := by
  constructor
  intro pins s σ H Q I h
  refine attr_of hb (thn (he.run pins s σ H _ I h) fun u s1 ⟨x, H1, I1, rx, a, D, d, fs, v, ex, C, nf, h1, h2, l, q⟩ => ?_)
  subst ex
  cases rx
  obtain ⟨t1, ho⟩ := exo_at I1.hok h1
  obtain ⟨mA, hns, rel⟩ := exd_at I1.hok h2
  obtain ⟨od, hod, hlk⟩ := lookIn_ns hns
  obtain ⟨w, hw, rw'⟩ := RelO.some_of (v := v) (o := mA f) (by rw [← l]; exact rel f)
  have J : PySem.W.InstAt s1.heap a _ D (some od) := ⟨ho, rfl, rfl, hod⟩
  exact HandSPX.exc_get I1.kIn J C.hg C.hk C.hs (PySem.W.findObj_own C.hd nf rfl (by rw [hlk, hw])) (handed_of rw') ⟨v, H1, I1.tok _, rw', q⟩
/-- C(), C without an own __init__ -/
def tMk0V (C : Addr) : TE := fun _ H Q => ∀ a, H a = none → Q (.ref a) (upd H a (ExI (.ref C) none a))
theorem pe_mk0V {X : Cx} {C : Addr} {x : Str} {p pos : Pos} (c : ExcAt X.K C) (gC : X.mg x = some (.ref C)) (hg : Gl X x) (hdb : (x == ("__debug__" : Str)) = false := by decide) : PE X (.Call (.Name x p) [] [] pos) (tMk0V C) := by
  constructor
  intro pins s σ H Q I h
  refine wpAny_Call_Name_kw (ld_glob I hg gC ?_ hdb)
  refine PySem.W.callWith_K0 I.kIn c.k ?_
  obtain ⟨bm, N, nm, qn, bs, hdct, sn, sub, ab, col, dd, k0, k1, k2, k3, k5, mN, hC, hN, hni, T⟩ := exc_obj I.kIn c.x
  refine wpAny_call_exc_subT PySem.F.excBase_ValueError T hC hN hni (fun h' a hm => ?_) (Nat.zero_le _)
  have na : H a = none := I.hok.gone hm.new
  obtain ⟨t, at_, _, _⟩ := hm.there
  refine ⟨.ref a, _, I.laidN (o := ExI (.ref C) none a) hm.keeps hm.new na ⟨⟨_, _, at_, ⟨rfl, rfl⟩, rfl⟩, ⟨_, at_⟩, fun _ _ ⟨o1, v1, z, r⟩ k => ⟨o1, v1, k o1 z, r⟩⟩, rfl, h a na⟩
/-- C(..), C with an own __init__ -/
def tMkV (C : Addr) (sp : Sp) (ta : TA) : TE := fun σ H Q => ta σ H fun vs H1 => vs.length ≤ 1000 ∧ ∀ a, H1 a = none → sp (.ref a :: vs) (upd H1 a (exo a C none)) (fun v H2 => v = .non ∧ Q (.ref a) H2) E0
theorem L_mkV {C : Addr} {sp : Sp} {ta : TA} {σ : L2.St} {H : Hp} {Q : VK} (h : ta σ H fun vs H1 => vs.length ≤ 1000 ∧ ∀ a, H1 a = none → sp (.ref a :: vs) (upd H1 a (exo a C none)) (fun v H2 => v = .non ∧ Q (.ref a) H2) E0) : tMkV C sp ta σ H Q := h
theorem L_mk0V {C : Addr} {σ : L2.St} {H : Hp} {Q : VK} (h : ∀ a, H a = none → Q (.ref a) (upd H a (ExI (.ref C) none a))) : tMk0V C σ H Q := h
theorem pe_mkV {X : Cx} {k j : Nat} {C : Addr} {x : Str} {sp : Sp} {p pos : Pos} {e : Expr} {es : List Expr} {ta : TA} (c : XMak X.prog X.w X.K X.mg X.base k x C sp) (T : OexC X.K C) (hr : Room j X.A) (hk : k + 1 ≤ j) (hg : Gl X x) (ha : PA X (e :: es) ta)
    (hdb : (x == ("__debug__" : Str)) = false := by decide) (he : starEach (e :: es) X.env = (false, eval e X.env) :: starEach es X.env := by rfl) (hpl : (backTo pos (starEach es X.env)).any (·.1) = false := by rfl) :
    PE X (.Call (.Name x p) (e :: es) [] pos) (tMkV C sp ta) := by
  obtain ⟨f, fd, ps, F, iC, tI, hm, hb⟩ := c.ex
  have room := hr.mono hk
  obtain ⟨nm, q, N, bs, bm, sn, sub, ab, col, dd, k0, k1, k2, k3, k5, hC, hbm⟩ := T.cls
  constructor
  intro pins s σ H Q I h
  refine wpAny_Call_Name_kw (ld_glob I hg hm ?_ hdb)
  refine PySem.W.callWith_K (h₀ := X.base) I.ok.mod.kin T.kC (thn (ha.run pos pins s σ H _ I h) fun us s1 ⟨vs, H1, I1, r1, hz, q1⟩ => ⟨I1.kIn, ?_⟩) he hpl
  show wpAny _ _ (call (.ref C) us) _ _ _
  have r1 : Vals vs us := r1
  have few : us.length ≤ sizeLine := by
    have z1 := Paired.length r1
    have z2 := sizeLine_eq
    omega
  obtain ⟨hp, g, dr, tk, os⟩ := s1
  -- the arguments' tuple and the exception's own place
  have old : ∀ b o, hp.get? b = some o → ((hp.push (PySem.W.kdv_tup us)).push (PySem.HandSPX.excO C hp.objs.size)).get? b = some o := fun b o z => Heap.get?_push_of_some _ (Heap.get?_push_of_some _ z)
  have here : ((hp.push (PySem.W.kdv_tup us)).push (PySem.HandSPX.excO C hp.objs.size)).get? (hp.objs.size + 1) = some (PySem.HandSPX.excO C hp.objs.size) := by heap_get
  have free : H1 (hp.objs.size + 1) = none := I1.hok.fresh (Nat.le_succ _)
  have J : Inv X pins σ (upd H1 (hp.objs.size + 1) (exo (hp.objs.size + 1) C none)) ⟨(hp.push (PySem.W.kdv_tup us)).push (PySem.HandSPX.excO C hp.objs.size), g, dr, tk, os⟩ :=
    I1.laid (t' := tk) old (Nat.le_succ _) (exo_ok here)
  have asked := q1 _ free
  have args : Vals (V.ref (hp.objs.size + 1) :: vs) (Value.ref (hp.objs.size + 1) :: us) := .cons rfl r1
  have many : (Value.ref (hp.objs.size + 1) :: us).length = ps.length := args.length.symm.trans (F.len _ _ _ _ asked)
  have bound := hb _ (Value.ref (hp.objs.size + 1) :: us) J.kIn (by rw [List.append_nil]; exact many)
  rw [List.append_nil] at bound
  refine wpAny_call (PySem.HandSPX.call_own PySem.F.excBase_ValueError (fun Y => PySem.HandSPX.refsVE_contains Y bm hbm) (I1.kIn _ _ hC) (PySem.W.looks_findIn I1.kIn iC) (fun self => PySem.W.bind_fn I1.kIn self tI) few ?_)
  refine codeAny_mono (F.run _ X.stack _ _ ⟨_, []⟩ _ _ _ E0 (room.make C us []) (J.env0.make C us []) bound args asked) fun out s' ho => ?_
  match out, ho with
  | .error e, ho => exact pass0 pins σ _ _ e s' J ho
  | .ok (.ret u), ho =>
    obtain ⟨v, H', J', rel, hv, rest⟩ := J.after ho
    cases hv
    exact ⟨rel, .ref (hp.objs.size + 1), H', J', rfl, rest⟩
  | .ok .next, ho => exact ho.elim
  | .ok .brk, ho => exact ho.elim
  | .ok .cont, ho => exact ho.elim
theorem L_dsetd {td ty tx : TE} {σ : L2.St} {H : Hp} {Q : VK} (h : td σ H fun x H1 => ∃ a, x = .ref a ∧ IsD H1 a ∧ ty σ H1 fun y H2 => tx σ H2 fun z H3 => ∃ (kvs : List (Key × V)) (k : Key), H3 a = some (.dK kvs) ∧ y = kV k ∧ kvs.length < sizeLine ∧
  (∀ v, valV kvs k = some v → Q v H3) ∧ (valV kvs k = none → Q z (upd H3 a (.dK (putK kvs k z))))) : tDSetd td ty tx σ H Q := h
/-! ### the tuples of a heap; fields changed by += -/
noncomputable def tp (H : Hp) : Hp := rs (fun b => ∃ xs, H b = some (.tup xs)) H
theorem tp_same {H H' : Hp} (h : ∀ b xs, H b = some (.tup xs) → H' b = some (.tup xs)) : Same (tp H) (tp H') := rs_same fun b o ⟨xs, e⟩ z => ⟨⟨xs, h b xs e⟩, by rw [e] at z; cases z; exact h b xs e⟩
theorem tp_upd {H : Hp} {a : Addr} {o : HO} (h : ∀ xs, H a ≠ some (.tup xs)) : Same (tp H) (tp (upd H a o)) := tp_same fun b xs e => by rw [upd_ne fun z => h xs (by rw [← z]; exact e)]; exact e
theorem tp_at {H : Hp} {b : Addr} {xs : List V} (h : H b = some (.tup xs)) : tp H b = some (.tup xs) := rs_at ⟨xs, h⟩ h
theorem tp_of {H H' : Hp} (e : Same H H') : Same (tp H) (tp H') := tp_same fun b xs z => e _ _ z
theorem L_fldaug {K : PySem.W.Frag} {σ : L2.St} {H : Hp} {N B C' : L2.St → Hp → Prop} {R : VK} {f : Str} {ta tv : TE} {rd : V → V → Hp → VK → Prop} (h : ta σ H fun x H1 => ∃ a C dx fs v, x = .ref a ∧ H1 a = some (.ins C dx fs) ∧ Cls K C ∧ NoAttr K C f ∧ fs.lookup f = some v ∧
  tv σ H1 fun y H2 => rd v y H2 fun z H3 => ∃ dx' fs', H3 a = some (.ins C dx' fs') ∧ fs'.length < 1000 ∧ N σ (upd H3 a (.ins C dx' (putF f z fs')))) : sFldAug K ta tv rd f ⟨N, R, B, C'⟩ σ H := h
theorem L_rAdd {H : Hp} {Q : VK} {i j : Int} (h : Q (.int (i + j)) H) : rAdd (.int i) (.int j) H Q := ⟨i, j, rfl, rfl, h⟩
theorem fm_flt {α β : Type} (c : α → Bool) (g : α → β) : ∀ l : List α, (List.range l.length).filterMap (fun i => (l[i]?).bind fun x => if c x = true then some (g x) else none) = (l.filter c).map g
  | [] => rfl
  | a :: l => by
    have ih := fm_flt c g l
    rw [List.length_cons, List.range_succ_eq_map]
    simp only [List.filterMap_cons, List.getElem?_cons_zero, Option.bind_some, List.filterMap_map, Function.comp_def, List.getElem?_cons_succ]
    rw [ih]
    cases h : c a
    · rw [List.filter_cons_of_neg (by simp [h])]; simp
    · rw [List.filter_cons_of_pos h]; simp
/-- t * n, t a text -/
def rRepS : R2 := fun x y H Q => ∃ (z : Str) (k : Int), x = .str z ∧ y = .int k ∧ MulOk z k ∧ Q (.str (Txt.mul z k)) H
theorem op_repS {X : Cx} : OpR X (binaryOp .Mult) rRepS := by
  intro pins s σ H x y v u Q I rx ry h
  obtain ⟨z, k, rfl, rfl, hz, q⟩ := h
  obtain ⟨t, rfl⟩ := rx
  obtain ⟨t', rfl⟩ := ry
  exact SB.mul hz fun t' tk => ⟨.str (Txt.mul z k), H, I.tok _, ⟨_, rfl⟩, q⟩
theorem L_repS0 {H : Hp} {Q : VK} {z : Str} {k : Int} (h : k = 0) (q : Q (.str Str.empty) H) : rRepS (.str z) (.int k) H Q := by
  subst h
  exact ⟨z, 0, rfl, rfl, ⟨by decide, fun h => absurd (by decide) h, fun h => absurd (by decide) h⟩, q⟩
theorem sqT_upd {K : PySem.W.Frag} {H : Hp} {p a : Addr} {us xs : List V} {o : HO} (hp : H p = some (.lst us)) (h : SqT K H a xs) : SqT K (upd H p o) a xs := by
  rcases h with (h | ⟨o', h⟩) | h
  · exact .inl (.inl (by rw [upd_ne fun z => by rw [z, hp] at h; cases h]; exact h))
  · exact .inl (.inr ⟨o', by rw [upd_ne fun z => by rw [z, hp] at h; cases h]; exact h⟩)
  · exact .inr h
theorem rep_map {α : Type} (f : α → V) (xs : List α) (n : Nat) : (List.replicate n (xs.map f)).flatten = ((List.replicate n xs).flatten).map f := by
  induction n with
  | zero => rfl
  | succ n ih => rw [List.replicate_succ, List.flatten_cons, List.replicate_succ, List.flatten_cons, List.map_append, ih]
theorem cutG_both {α : Type} (xs : List α) {a b : Nat} (h1 : a ≤ b) (h2 : b ≤ xs.length) : cutG xs (some (a : Int)) (some (b : Int)) = (xs.drop a).take (b - a) := by
  unfold cutG
  rw [HT.sIx_nat, HT.sIx_nat, Nat.min_eq_left h2, Nat.min_eq_left (Nat.le_trans h1 h2)]
/-! ### looks at a question's form, ahead of steps that show something -/
section
variable {K : PySem.W.Frag} {σ : L2.St} {H : Hp} {Q : VK} {x y v : V}
theorem G_mul (h : aMul x y H Q) : aMul x y H Q := h
theorem G_mod {g : Int → Int → V} (h : rI (fun _ j => 0 < j) g x y H Q) : rI (fun _ j => 0 < j) g x y H Q := h
theorem G_div {g : Int → Int → V} (h : rI CDivW g x y H Q) : rI CDivW g x y H Q := h
theorem G_pow {g : Int → Int → V} (h : rI CPow g x y H Q) : rI CPow g x y H Q := h
theorem G_ix {p : Addr} {i : Int} (h : rIx K (.ref p) (.int i) H Q) : rIx K (.ref p) (.int i) H Q := h
theorem G_len {p : Addr} (h : aLen K [.ref p] H Q) : aLen K [.ref p] H Q := h
theorem G_meth {a : Addr} {C : Addr} {m : Str} {R : Addr → Addr → List (Str × V) → Prop} (h : ∃ a' dx fs, V.ref a = V.ref a' ∧ H a' = some (.ins C dx fs) ∧ fs.lookup m = none ∧ R a' dx fs) : ∃ a' dx fs, V.ref a = V.ref a' ∧ H a' = some (.ins C dx fs) ∧ fs.lookup m = none ∧ R a' dx fs := h
theorem G_isi {i : Int} {n : String} (h : rIsi K [.int i, .ty n] H Q) : rIsi K [.int i, .ty n] H Q := h
theorem G_d {p : Prop} [Decidable p] {A B : Prop} (h : if decide p = true then A else B) : if decide p = true then A else B := h
theorem G_nd {p : Prop} [Decidable p] {A B : Prop} (h : if (!decide p) = true then A else B) : if (!decide p) = true then A else B := h
theorem G_gn {i : Nat} {N : L2.St → Hp → Prop} (h : gName i v σ H N) : gName i v σ H N := h
end
theorem inV_strs (n : Str) : ∀ ns : List Str, inV (.str n) (ns.map V.str) = decide (n ∈ ns)
  | [] => by simp [inV]
  | k :: ns => by
    have ih := inV_strs n ns
    unfold inV at ih ⊢
    rw [List.map_cons, List.any_cons, ih]
    by_cases e : n = k
    · subst e
      simp [eqV]
    · have e' : ¬ k = n := fun z => e z.symm
      simp [eqV, e, e']
theorem flat_strs : ∀ ns : List Str, (ns.map V.str).all flatV = true
  | [] => rfl
  | _ :: ns => by rw [List.map_cons, List.all_cons, flat_strs ns]; rfl
section
variable {K : PySem.W.Frag} {H : Hp} {Q : VK} {p : Addr} {z : Str} {ns : List Str}
theorem L_notInSs (h : SqL K H p (ns.map V.str)) (q : Q (.bl (!decide (z ∈ ns))) H) : aNotIn K (.str z) (.ref p) H Q := .inr ⟨p, _, rfl, .inl h, rfl, flat_strs _, by rw [if_pos rfl, inV_strs]; exact q⟩
theorem L_inSs (h : SqL K H p (ns.map V.str)) (q : Q (.bl (decide (z ∈ ns))) H) : aIn K (.str z) (.ref p) H Q := .inr ⟨p, _, rfl, .inl h, rfl, flat_strs _, by rw [if_neg (by decide), inV_strs]; exact q⟩
end
/-! ### dicts: in, not in, d[k] = v -/
section
variable {K : PySem.W.Frag} {σ : L2.St} {H : Hp} {Q : VK} {ty td tv : TE} {y v : V} {a : Addr} {k : Key} {kvs : List (Key × V)}
theorem L_din (h : ty σ H fun y H1 => td σ H1 fun x H2 => ∃ a o, x = .ref a ∧ DGet H2 a y o ∧ Q (.bl o.isSome) H2) : tDIn ty td σ H Q := h
theorem L_dnin (h : ty σ H fun y H1 => td σ H1 fun x H2 => ∃ a o, x = .ref a ∧ DGet H2 a y o ∧ Q (.bl (!o.isSome)) H2) : tDNotIn ty td σ H Q := h
theorem L_dget (h : td σ H fun x H1 => ty σ H1 fun y H2 => ∃ a v, x = .ref a ∧ DGet H2 a y (some v) ∧ Q v H2) : tDGet td ty σ H Q := h
theorem L_dinv {R : Option V → Prop} (e : y = kV k) (h : H a = some (.dK kvs)) (q : R (valV kvs k)) : ∃ a' o, V.ref a = .ref a' ∧ DGet H a' y o ∧ R o := ⟨a, _, rfl, by rw [e]; exact DGet.k h, q⟩
theorem L_dgetv {R : V → Prop} (e : y = kV k) (h : H a = some (.dK kvs)) (hv : valV kvs k = some v) (q : R v) : ∃ a' v, V.ref a = .ref a' ∧ DGet H a' y (some v) ∧ R v := ⟨a, v, rfl, by rw [e, ← hv]; exact DGet.k h, q⟩
theorem L_dput {N B C : L2.St → Hp → Prop} {R : VK} (h : tv σ H fun v H1 => td σ H1 fun x H2 => ty σ H2 fun y H3 => ∃ a H4, x = .ref a ∧ DPut H3 a y v H4 ∧ N σ H4) : sDPut td ty tv ⟨N, R, B, C⟩ σ H := h
theorem L_dputv {R : Hp → Prop} (e : y = kV k) (h : H a = some (.dK kvs)) (hl : kvs.length < 1000000) (q : R (upd H a (.dK (putK kvs k v)))) : ∃ a' H4, V.ref a = .ref a' ∧ DPut H a' y v H4 ∧ R H4 := ⟨a, _, rfl, by rw [e]; exact DPut.k h (sz_lt hl), q⟩
end
theorem putK_len {kvs : List (Key × V)} {k : Key} {v : V} : (putK kvs k v).length ≤ kvs.length + 1 := by
  unfold putK
  split
  · rw [List.length_map]; omega
  · rw [List.length_append, List.length_singleton]; omega
/-! ### a comprehension of new pairs of ints -/
def T2 (H : Hp) (v : V) (p : Int × Int) : Prop := ∃ t, v = .ref t ∧ H t = some (.tup [.int p.1, .int p.2])
theorem paired_imp2 {α β : Type} {F G : α → β → Prop} (h : ∀ a b, F a b → G a b) : ∀ {xs : List α} {ys : List β}, Paired F xs ys → Paired G xs ys
  | [], _, p => by cases p; exact .nil
  | x :: xs, _, p => by cases p with | cons h1 h2 => exact .cons (h _ _ h1) (paired_imp2 h h2)
theorem paired_app {α β : Type} {F : α → β → Prop} : ∀ {xs us : List α} {ys ws : List β}, Paired F xs ys → Paired F us ws → Paired F (xs ++ us) (ys ++ ws)
  | [], _, _, _, p, q => by cases p; exact q
  | x :: xs, _, _, _, p, q => by cases p with | cons h1 h2 => exact .cons h1 (paired_app h2 q)
section
variable {σ : L2.St} {H : Hp} {g : TG} {tt : TT} {te : TE}
theorem lc_pr {J : It} {n : Nat} {G : Hp → Prop} {Y : Nat → Hp → V → Hp → Prop} (w : L2.Walk J n G Y) {vs : List Nat} {Qd : Addr → Hp → Prop} (f : Nat → Option (Int × Int)) (hn : n ≤ 1000000) (hG : ∀ H', Same H H' → G H')
    (hs : ∀ i x H2 H' (R : V → Hp → Prop) (R' : Hp → Prop), i < n → Same H H2 → Y i H2 x H' → (∀ t p H4, f i = some p → Same H2 H4 → H4 t = some (.tup [.int p.1, .int p.2]) → R (.ref t) H4) → (∀ H3, f i = none → Same H2 H3 → R' H3) →
      g x (wipe σ vs) H' fun σ2 H2 => wipe σ2 vs = wipe σ vs ∧ tt σ2 H2 fun b H3 => if b = true then te σ2 H3 R else R' H3)
    (q : ∀ p H' vs, H p = none → Same H H' → H' p = some (.lst vs) → Paired (T2 H') vs ((List.range n).filterMap f) → Qd p H') :
    ∀ D, H D = none → ∃ W : Nat → Nat → Hp → Prop, (∃ m, W 0 m (upd H D (.lst []))) ∧ ∀ i m H, W i m H →
      (J.stop i H ∧ Qd D H) ∨ (J.go i H ∧ ∃ Nx : Hp → Prop, (∀ H', Nx H' → ∃ m', m' < m ∧ W (i + 1) m' H') ∧ ∀ x H', J.yld i H x H' → g x (wipe σ vs) H' fun σ2 H2 => wipe σ2 vs = wipe σ vs ∧ tt σ2 H2 fun b H3 =>
        if b = true then te σ2 H3 fun y H4 => ∃ acc, H4 D = some (.lst acc) ∧ acc.length < sizeLine ∧ Nx (upd H4 D (.lst (acc ++ [y]))) else Nx H3) := by
  intro D hD
  refine lc_it w (fun i H2 => Same H H2 ∧ ∃ us, H2 D = some (.lst us) ∧ Paired (T2 H2) us ((List.range i).filterMap f)) ⟨same_new hD, [], upd_same, .nil⟩ (fun i H2 _ p => hG H2 p.1) ?_ (fun H2 ⟨p1, us, p2, p3⟩ => q D H2 us hD p1 p2 p3)
  rintro i x H2 H' hi ⟨p1, us, p2, p3⟩ y
  refine hs i x H2 H' _ _ hi p1 y (fun t d H4 e s et => ?_) (fun H3 e s => ?_)
  · have e4 := s _ _ p2
    have ne : ∀ t o, H4 t = some o → (∀ l, o ≠ .lst l) → t ≠ D := fun t o h h' z => by rw [z, e4] at h; injection h with h; exact h' _ h.symm
    refine ⟨us, e4, sz_lt (by have := Paired.length p3; have := fm_len' f i; omega), same_mut (p1.trans s) hD, _, upd_same, ?_⟩
    rw [fm_succ', e]
    have up : ∀ v p, T2 H4 v p → T2 (upd H4 D (.lst (us ++ [.ref t]))) v p := fun v p h => by
      obtain ⟨t', h1, h2⟩ := h
      exact ⟨t', h1, by rw [upd_ne (ne t' _ h2 (fun _ z => by cases z))]; exact h2⟩
    exact paired_app (paired_imp2 (fun v p h => up v p (by obtain ⟨t', h1, h2⟩ := h; exact ⟨t', h1, s _ _ h2⟩)) p3) (.cons (up _ _ ⟨t, rfl, et⟩) .nil)
  · refine ⟨p1.trans s, us, s _ _ p2, ?_⟩
    rw [fm_succ', e, List.append_nil]
    exact paired_imp2 (fun v p ⟨t, h1, h2⟩ => ⟨t, h1, s _ _ h2⟩) p3
end
/-! ### methods with defaults -/
structure MethD (K : PySem.W.Frag) (C : Addr) (m qual : Str) (st : Stmt) (ps : List Str) (dvs : List V) : Prop where
  ex : ∃ (f : Addr) (fd : FuncData), FunD K m qual (defArgs st) (defBody st) (defScope st) dvs [] f fd ∧ Meth K C m f ∧ Binds K fd ps [] ∧ ∃ ds, Vals dvs ds ∧ Binds K fd ps ds
theorem binds_full {K : PySem.W.Frag} {fd : FuncData} {ps : List Str} {dvs : List V} {j : Nat} (h : ∃ ds, Vals (dvs.drop j) ds ∧ Binds K fd ps ds) (hj : dvs.length ≤ j := by decide) : Binds K fd ps [] := by
  obtain ⟨ds, r, b⟩ := h
  rw [List.drop_eq_nil_of_le hj] at r
  cases r
  exact b
structure MetXD (P : Program) (w : World) (K : PySem.W.Frag) (mg : Str → Option Value) (base : Heap) (k : Nat) (C : Addr) (m : Str) (sp : Sp) (dvs : List V) : Prop where
  ex : ∃ (f : Addr) (fd : FuncData) (ps : List Str) (ds : List Value), Cls K C ∧ Meth K C m f ∧ FnOk P w K mg base (L2.CX P w) k f fd ps sp ∧ Binds K fd ps [] ∧ Vals dvs ds ∧ Binds K fd ps ds
section
variable {P : Program} {w : World} {K : PySem.W.Frag} {mg : Str → Option Value} {base : Heap}
theorem MethD.metXD {C : Addr} {m qual : Str} {st : Stmt} {N ps : List Str} {k : Nat} {sp : Sp} {dvs : List V} (c : Cls K C) (d : MethD K C m qual st ps dvs) (S : FnScope N ps (defScope st)) (len : ∀ vs H Q E, sp vs H Q E → vs.length = ps.length)
    (hbody : ∀ (f : Addr) (cdv : Value) (A : Around) (outer : List Env) (s : Shared) (H : Hp) (vs : List V) (Q : VK) (E : XK), Room k (A.deeper (envOfC qual (defScope st) s.heap.objs.size f cdv)) → sp vs H Q E →
      ∃ t, PSs (cxOf (L2.CX P w) P w K mg base N qual (defScope st) f cdv A outer s H E) (defBody st) t ∧ t { nx := fun _ H' => Q .non H', rt := Q } (start N vs) H) : MetXD P w K mg base (k + 1) C m sp dvs := by
  obtain ⟨f, fd, F, hm, b, ds, r, b2⟩ := d.ex
  exact ⟨f, fd, ps, ds, c, hm, F.ok S len (hbody f), b, r, b2⟩
theorem MetXD.m {k : Nat} {C : Addr} {m : Str} {sp : Sp} {dvs : List V} (c : MetXD P w K mg base k C m sp dvs) : MetX P w K mg base k C m sp := by
  obtain ⟨f, fd, ps, ds, hc, hm, F, b, r, b2⟩ := c.ex
  exact ⟨f, fd, ps, hc, hm, F, b⟩
end
def tMethDE (C : Addr) (m : Str) (sp : Sp) (dvs : List V) (E : L2.St → XK) (ta : TE) (t : TA) : TE := fun σ H Q => ta σ H fun x H1 => ∃ a dx fs, x = .ref a ∧ H1 a = some (.ins C dx fs) ∧ fs.lookup m = none ∧ t σ H1 fun vs H2 => sp (x :: vs ++ dvs) H2 Q (E σ)
section
variable {X : Cx} {CX : CXT} {k j : Nat} {f C : Addr} {fd : FuncData} {ps : List Str} {x m : Str} {sp : Sp} {p pos apos : Pos} {e o : Expr} {es : List Expr} {ta : TE} {t : TA} {E : L2.St → XK} {dvs : List V}
theorem L_methD {σ : L2.St} {H : Hp} {Q : VK} (h : ta σ H fun x H1 => ∃ a dx fs, x = .ref a ∧ H1 a = some (.ins C dx fs) ∧ fs.lookup m = none ∧ t σ H1 fun vs H2 => sp (x :: vs ++ dvs) H2 Q (E σ)) : tMethDE C m sp dvs E ta t σ H Q := h
theorem pe_xMtD {pl : Sem Bool} (c : MetXD X.prog X.w X.K X.mg X.base k C m sp dvs) (hr : Room j X.A) (hk : k ≤ j) (hx : ∀ σ, PassesAt (L2.CX X.prog X.w) X σ (E σ)) (he : PE X o ta) (ha : PA X (e :: es) t)
    (hst : starEach (e :: es) X.env = (false, eval e X.env) :: starEach es X.env := by rfl) (hpl : (backTo pos (starEach es X.env)).any (·.1) = false := by rfl)
    (ht : eval (.Call (.Attribute o m apos) (e :: es) [] pos) X.env = (do
      let ov ← eval o X.env
      standAt apos.atName
      let (f, first) ← holding [ov] (getMethod ov m pl)
      callWith pos f first (backTo pos (starEach (e :: es) X.env)) (backToKw pos (keywordEach [] X.env))) := by rfl) :
    PE X (.Call (.Attribute o m apos) (e :: es) [] pos) (tMethDE C m sp dvs E ta t) := by
  obtain ⟨f, fd, ps, ds, hc, hm, F, _, hd, hb⟩ := c.ex
  refine ⟨fun pins s σ H Q I h => ?_⟩
  refine PySem.W.methodCall_KW (pl := pl) (thn (he.run pins s σ H _ I h) fun u s1 ⟨x, H1, I1, rx, a, dx, fs, ex, ea, l, q⟩ => ?_) ht
  subst ex
  obtain rfl : u = Value.ref a := rx
  refine getmeth_ok I1 ea hc hm l ?_
  refine PySem.W.callWith_K (first := [.ref a]) (h₀ := X.base) I.ok.mod.kin hm.kp (thn (ha.run pos pins s1 σ H1 _ I1 q) fun us s2 ⟨vs, H2, I2, r, q2⟩ => ⟨I2.kIn, ?_⟩) hst hpl
  exact run_fnSD (us := .ref a :: us) (vs := .ref a :: vs) F (hr.mono hk) hb hd (hx σ) I2 (.cons rfl r) q2
end
/-! ### dicts with ints as keys -/
def rSortDI : List V → Hp → VK → Prop := fun xs H Q => ∃ (a : Addr) (kvs : List (Key × V)) (ks : List Int), xs = [.ref a] ∧ Rd H a (.dK kvs) ∧ kvs.map (·.1) = ks.map Sum.inl ∧ ks.length < 64 ∧
    ∀ (ys : List Int) (p : Addr), ys.Perm ks → ys.Pairwise (· ≤ ·) → H p = none → Q (.ref p) (upd H p (.lst (ys.map V.int)))
theorem cr_sortDI {X : Cx} (hc : X.calm = true) : CallR X (.builtin "sorted") rSortDI := call_sortedDI hc
/-- the dict kvs is the function g: a key stands where g is not nought -/
def DGr (kvs : List (Key × V)) (g : Int → Int) : Prop := ∃ ks : List Int, kvs.map (·.1) = ks.map Sum.inl ∧ ks.Nodup ∧ (∀ f, f ∈ ks ↔ g f ≠ 0) ∧ ∀ f, g f ≠ 0 → valV kvs (Sum.inl f : Key) = some (.int (g f))
theorem DGr.none {kvs : List (Key × V)} {g : Int → Int} (h : DGr kvs g) {f : Int} (hf : g f = 0) : valV kvs (Sum.inl f : Key) = none := by
  obtain ⟨ks, h1, h2, h3, h4⟩ := h
  cases e : valV kvs (Sum.inl f : Key) with
  | none => rfl
  | some v =>
    obtain ⟨kv, hk, _⟩ := Option.map_eq_some_iff.mp e
    have hm := List.mem_of_find?_eq_some hk
    have he : kv.1 = (Sum.inl f : Key) := of_decide_eq_true (List.find?_some (p := fun kv : Key × V => decide (kv.1 = (Sum.inl f : Key))) hk)
    have : (Sum.inl f : Key) ∈ ks.map Sum.inl := by rw [← h1, ← he]; exact List.mem_map_of_mem hm
    obtain ⟨f', hf', e'⟩ := List.mem_map.mp this
    cases e'
    exact absurd hf ((h3 f).mp hf')
theorem DGr.getD {kvs : List (Key × V)} {g : Int → Int} (h : DGr kvs g) (f : Int) : (valV kvs (Sum.inl f : Key)).getD (.int 0) = .int (g f) := by
  by_cases hf : g f = 0
  · rw [h.none hf, hf]; rfl
  · obtain ⟨ks, h1, h2, h3, h4⟩ := h
    rw [h4 f hf]; rfl
theorem DGr.nil : DGr [] (fun _ => 0) := ⟨[], rfl, .nil, fun f => by simp, fun f h => absurd rfl h⟩
theorem DGr.one {k v : Int} (hv : v ≠ 0) : DGr [(Sum.inl k, .int v)] (fun f => if f = k then v else 0) := ⟨[k], rfl, by simp, fun f => by
  rw [List.mem_singleton]
  by_cases h : f = k
  · simp [h, hv]
  · simp [h], fun f h => by
  by_cases e : f = k
  · subst e; simp [valV]
  · simp [e] at h⟩
theorem DGr.put {kvs : List (Key × V)} {g : Int → Int} (h : DGr kvs g) (k v : Int) (hv : v ≠ 0) : DGr (putK kvs (Sum.inl k) (.int v)) (fun f => if f = k then v else g f) := by
  have hval : ∀ f, (if f = k then v else g f) ≠ 0 → valV (putK kvs (Sum.inl k : Key) (.int v)) (Sum.inl f) = some (.int (if f = k then v else g f)) := fun f hf => by
    rw [L2.valV_put]
    by_cases e : f = k
    · rw [if_pos e, if_pos (by rw [e])]
    · rw [if_neg e] at hf ⊢
      rw [if_neg (fun z => e (Sum.inl.inj z))]
      obtain ⟨ks, h1, h2, h3, h4⟩ := h
      exact h4 f hf
  by_cases hk : g k = 0
  · have hn := h.none hk
    obtain ⟨ks, h1, h2, h3, h4⟩ := h
    have e : putK kvs (Sum.inl k : Key) (.int v) = kvs ++ [(Sum.inl k, .int v)] := L2.putK_new (.int v) hn
    refine ⟨ks ++ [k], by rw [e, List.map_append, List.map_append, h1]; rfl, ?_, fun f => ?_, hval⟩
    · rw [List.nodup_append]
      refine ⟨h2, by simp, fun a ha b hb => ?_⟩
      rw [List.mem_singleton] at hb
      rintro rfl
      subst hb
      exact (h3 _).mp ha hk
    · rw [List.mem_append, List.mem_singleton, h3]
      by_cases e : f = k
      · simp [e, hv]
      · simp [e]
  · obtain ⟨ks, h1, h2, h3, h4⟩ := h
    have hany : (kvs.any fun kv => decide (kv.1 = (Sum.inl k : Key))) = true := by
      rw [List.any_eq_true]
      have : (Sum.inl k : Key) ∈ kvs.map (·.1) := by rw [h1]; exact List.mem_map_of_mem ((h3 k).mpr hk)
      obtain ⟨kv, hm, e⟩ := List.mem_map.mp this
      exact ⟨kv, hm, decide_eq_true e⟩
    refine ⟨ks, ?_, h2, fun f => ?_, hval⟩
    · unfold putK
      rw [if_pos hany, List.map_map, ← h1]
      refine List.map_congr_left fun kv _ => ?_
      show (if kv.1 = Sum.inl k then (kv.1, V.int v) else kv).1 = kv.1
      split <;> rfl
    · rw [h3]
      by_cases e : f = k
      · simp [e, hv, hk]
      · simp [e]
theorem DGr.congr {kvs : List (Key × V)} {g g' : Int → Int} (h : DGr kvs g) (e : ∀ f, g f = g' f) : DGr kvs g' := by
  rw [show g' = g from funext fun f => (e f).symm]; exact h
/-- a rising list of whole numbers from 0 to n - 1 is known by its members -/
def upN (n : Nat) : List Int := (List.range n).map fun i : Nat => (i : Int)
def keysOf (n : Nat) (h : Int → Int) : List Int := (upN n).filter fun f => decide (h f ≠ 0)
theorem upN_mem {n : Nat} {f : Int} : f ∈ upN n ↔ 0 ≤ f ∧ f < n := by
  unfold upN
  rw [List.mem_map]
  constructor
  · rintro ⟨i, hi, rfl⟩
    have := List.mem_range.mp hi
    omega
  · rintro ⟨h0, h1⟩
    exact ⟨f.toNat, List.mem_range.mpr (by omega), by omega⟩
theorem upN_lt (n : Nat) : (upN n).Pairwise (· < ·) := by
  unfold upN
  rw [List.pairwise_map]
  exact List.pairwise_lt_range.imp fun h => by omega
theorem lt_perm : ∀ {l l' : List Int}, l.Pairwise (· < ·) → l'.Pairwise (· < ·) → (∀ x, x ∈ l ↔ x ∈ l') → l = l'
  | [], [], _, _, _ => rfl
  | [], b :: l', _, _, h => absurd ((h b).mpr (List.mem_cons_self ..)) (by simp)
  | a :: l, [], _, _, h => absurd ((h a).mp (List.mem_cons_self ..)) (by simp)
  | a :: l, b :: l', h1, h2, h => by
    rw [List.pairwise_cons] at h1 h2
    have hab : a = b := by
      have ha := (h a).mp (List.mem_cons_self ..)
      have hb := (h b).mpr (List.mem_cons_self ..)
      rcases List.mem_cons.mp ha with e | e
      · exact e
      · rcases List.mem_cons.mp hb with e' | e'
        · exact e'.symm
        · have := h1.1 b e'
          have := h2.1 a e
          omega
    subst hab
    rw [lt_perm h1.2 h2.2 fun x => ?_]
    constructor
    · intro hx
      have := h1.1 x hx
      rcases List.mem_cons.mp ((h x).mp (List.mem_cons_of_mem _ hx)) with e | e
      · omega
      · exact e
    · intro hx
      have := h2.1 x hx
      rcases List.mem_cons.mp ((h x).mpr (List.mem_cons_of_mem _ hx)) with e | e
      · omega
      · exact e
theorem L_sortDI {H : Hp} {Q : VK} {a : Addr} {kvs : List (Key × V)} {g : Int → Int} {n : Nat} (hn : n < 64) (h : H a = some (.dK kvs)) (hg : DGr kvs g) (hb : ∀ f, g f ≠ 0 → 0 ≤ f ∧ f < n) (q : ∀ p, H p = none → Q (.ref p) (upd H p (.lst ((keysOf n g).map V.int)))) : rSortDI [.ref a] H Q := by
  obtain ⟨ks, h1, h2, h3, h4⟩ := hg
  have key : ∀ ys : List Int, ys.Perm ks → ys.Pairwise (· ≤ ·) → ys = keysOf n g := fun ys hp hs => by
    refine lt_perm ?_ ((upN_lt n).filter _) fun x => ?_
    · have nd := hp.nodup_iff.mpr h2
      exact (hs.and nd).imp fun ⟨h1, h2⟩ => by omega
    · rw [hp.mem_iff, h3]
      unfold keysOf
      rw [List.mem_filter, upN_mem, decide_eq_true_eq]
      exact ⟨fun z => ⟨hb x z, z⟩, fun z => z.2⟩
  refine ⟨a, kvs, ks, rfl, .inl h, h1, ?_, fun ys p hp hs hf => ?_⟩
  · have : ks.Perm (keysOf n g) := (List.perm_ext_iff_of_nodup h2 ((upN_lt n).imp (fun h => by omega) |>.filter _)).mpr fun x => by
      rw [h3]
      rw [List.mem_filter, upN_mem, decide_eq_true_eq]
      exact ⟨fun z => ⟨hb x z, z⟩, fun z => z.2⟩
    rw [this.length_eq]
    refine Nat.lt_of_le_of_lt (List.length_filter_le ..) ?_
    unfold upN
    rw [List.length_map, List.length_range]
    exact hn
  · rw [key ys hp hs]
    exact q p hf
theorem L_dget2 {σ : L2.St} {H : Hp} {Q : VK} {td ty tx : TE} (h : td σ H fun x H1 => ∃ a, x = .ref a ∧ IsD H1 a ∧ ty σ H1 fun y H2 => tx σ H2 fun z H3 => ∃ o, DGet H3 a y o ∧ Q (o.getD z) H3) : tDGet2 td ty tx σ H Q := h
theorem isD_at' {H : Hp} {a : Addr} {kvs : List (Key × V)} (h : H a = some (.dK kvs)) : IsD H a := .inl ⟨kvs, .inl h⟩
/-! ### a chain of three comparisons -/
def tChain3 (r r' r'' : R2) (ta tb tc td : TE) : TE := fun σ H Q => ta σ H fun x H1 => tb σ H1 fun y H2 => r x y H2 fun z H3 => ∃ k, z = .bl k ∧
  (if k = true then tc σ H3 fun w' H4 => r' y w' H4 fun z2 H5 => ∃ k2, z2 = .bl k2 ∧ (if k2 = true then td σ H5 fun u' H6 => r'' w' u' H6 Q else Q (.bl false) H5) else Q (.bl false) H3)
section
variable {X : Cx} {a b c d : Expr} {ta tb tc td : TE} {pos : Pos}
theorem pe_chain3 {op op' op'' : CmpOp} {r r' r'' : R2} (ho : OpR X (compareOp op) r) (ho' : OpR X (compareOp op') r') (ho'' : OpR X (compareOp op'') r'') (ha : PE X a ta) (hb : PE X b tb) (hc : PE X c tc) (hd : PE X d td)
    (hm : lastMarks [op, op', op''] [b, c, d] = false := by with_unfolding_all rfl) : PE X (.Compare a [op, op', op''] [b, c, d] pos) (tChain3 r r' r'' ta tb tc td) := by
  refine ⟨fun pins s σ H Q I h => ?_⟩
  refine Compare_chain (thn (ha.run pins s σ H _ I h) fun v s1 ⟨x, H1, I1, r1, q1⟩ => chain_link (thn (hb.run pins s1 σ H1 _ I1 q1) fun u s2 ⟨y, H2, I2, r2, q2⟩ =>
    thn (ho pins s2 σ H2 x y v u _ I2 r1 r2 q2) fun d s3 ⟨z, H3, I3, r3, k, e, q3⟩ => ?_)) hm
  subst e
  cases r3
  refine wpAny_truthy_bool ?_
  cases k with
  | false => exact ite_ff ⟨.bl false, H3, I3, rfl, q3⟩
  | true =>
    refine ite_tt (chain_link (thn (hc.run pins s3 σ H3 _ I3 q3) fun w' s4 ⟨z', H4, I4, r4, q4⟩ => thn (ho' pins s4 σ H4 y z' u w' _ I4 r2 r4 q4) fun d2 s5 ⟨z2, H5, I5, r5, k2, e2, q5⟩ => ?_))
    subst e2
    cases r5
    refine wpAny_truthy_bool ?_
    cases k2 with
    | false => exact ite_ff ⟨.bl false, H5, I5, rfl, q5⟩
    | true => exact ite_tt (chain_last (thn (hd.run pins s5 σ H5 _ I5 q5) fun u' s6 ⟨z3, H6, I6, r6, q6⟩ => ho'' pins s6 σ H6 z' z3 w' u' Q I6 r4 r6 q6))
theorem L_chain3 {r r' r'' : R2} {σ : L2.St} {H : Hp} {Q : VK} (h : ta σ H fun x H1 => tb σ H1 fun y H2 => r x y H2 fun z H3 => ∃ k, z = .bl k ∧
  (if k = true then tc σ H3 fun w' H4 => r' y w' H4 fun z2 H5 => ∃ k2, z2 = .bl k2 ∧ (if k2 = true then td σ H5 fun u' H6 => r'' w' u' H6 Q else Q (.bl false) H5) else Q (.bl false) H3)) : tChain3 r r' r'' ta tb tc td σ H Q := h
end
/-- the chain's test, as a value's -/
theorem L_catA {K : PySem.W.Frag} {H : Hp} {a b : Addr} {xs ys : List V} {Q : VK} (h1 : SqT K H a xs) (h2 : SqT K H b ys) (n1 : xs ≠ []) (n2 : ys ≠ []) (hl : xs.length + ys.length ≤ sizeLine) (q : ∀ p, H p = none → Q (.ref p) (upd H p (.tup (xs ++ ys)))) : aAdd K (.ref a) (.ref b) H Q :=
  .inr (.inr (.inr ⟨a, b, xs, ys, rfl, rfl, h1, h2, hl, fun e => absurd e n1, fun _ e => absurd e n2, fun _ _ => q⟩))
/-! ### several except clauses, some of them with a name -/
abbrev HdA := Value × Option Nat × (Addr → Value → Option Addr → TS)
def wManyA (K : PySem.W.Frag) (Wout : WX) (D : Ends) : List HdA → WX
  | [] => Wout
  | (c, none, ts) :: r => fun cls d σ H => ∃ b, PySem.W.exmOne K cls c = some b ∧ (b = true → ∀ a, H a = none → ts a cls d D σ H) ∧ (b = false → wManyA K Wout D r cls d σ H)
  | (c, some i, ts) :: r => fun cls d σ H => ∃ b, PySem.W.exmOne K cls c = some b ∧
    (b = true → ∀ a, H a = none → ts a cls d ⟨fun σ' H' => H' a = none → D.nx (σ'.set i none) (upd H' a (ExI cls d a)), D.rt, fun σ' H' => D.bk (σ'.set i none) H', fun σ' H' => D.ct (σ'.set i none) H'⟩ (σ.set i (some (.ref a))) H) ∧
    (b = false → wManyA K Wout D r cls d σ H)
inductive HdsA (X : Cx) : List ExceptHandler → List HdA → Prop
  | nil : HdsA X [] []
  | cons {x : Str} {c : Value} {ts : Addr → Value → Option Addr → TS} {b₀ : Stmt} {suite : List Stmt} {np pos' : Pos} {hds : List ExceptHandler} {l : List HdA} (hc : Names X x c)
      (hsu : ∀ (a : Addr) (oe : Obj) (cls : Value) (d : Option Addr) (pn : List (Addr × Obj)), Zc cls d oe → (∃ vs, oe.data = .fields vs) → PSs (X.suite a ((a, oe) :: pn)) (b₀ :: suite) (ts a cls d)) (r : HdsA X hds l) :
      HdsA X (.ExceptHandler (some (.Name x np)) none (b₀ :: suite) pos' :: hds) ((c, none, ts) :: l)
  | consA {x n : Str} {c : Value} {i : Nat} {ts : Addr → Value → Option Addr → TS} {b₀ : Stmt} {suite : List Stmt} {np pos' : Pos} {hds : List ExceptHandler} {l : List HdA} (hi : X.N[i]? = some n) (hln : X.env.kindOf n = some .local) (hc : Names X x c)
      (hsu : ∀ (a : Addr) (oe : Obj) (cls : Value) (d : Option Addr) (pn : List (Addr × Obj)), Zc cls d oe → (∃ vs, oe.data = .fields vs) → PSs (X.suite a ((a, oe) :: pn)) (b₀ :: suite) (ts a cls d)) (r : HdsA X hds l) :
      HdsA X (.ExceptHandler (some (.Name x np)) (some n) (b₀ :: suite) pos' :: hds) ((c, some i, ts) :: l)
section
variable {X : Cx} {body : List Stmt} {h₀ : ExceptHandler} {hds : List ExceptHandler} {l : List HdA} {pos : Pos} {tb : WX → TS} {Wout : WX}
theorem ps_try_manyA (hs : X.stack = X.env :: X.outer) (hf : X.env.frame = some X.env.locals) (hN : X.N.Nodup) (hex : X.ex = []) (tk : Takes X Wout)
    (hb : ∀ (W : WX) (pn : List (Addr × Obj)) (xe : Value → Shared → Prop), Takes (X.tr pn xe) W → PassesOwn (model X.prog X.w) X.A X.env xe → PSs (X.tr pn xe) body (tb W))
    (hh : HdsA X (h₀ :: hds) l) : PS X (.Try body (h₀ :: hds) [] [] pos) (fun D σ H => tb (wManyA X.K Wout D l) D σ H) := by
  constructor
  intro pins s0 σ0 H0 D I0 start
  have okX := I0.ok
  have frames : X.A.frames = some (X.env :: X.outer) := by
    rw [okX.frames, hs]
  apply wpAny_Try_except
  let look : Value → Shared → Prop := fun e t1 => wpAny (model X.prog X.w) X.A (noteFrame e X.env) (fun _ t2 => wpAny (model X.prog X.w) X.A (setFlight e none)
    (fun _ t3 => wpAny (model X.prog X.w) X.A (handleBy e X.env (h₀ :: hds)) (SP X pins D) X.xe t3) X.xe t2) X.xe t1
  have caught : Takes (X.tr (X.pn ++ pins) look) (wManyA X.K Wout D l) := by
    intro u s' air
    obtain ⟨a, B, sI, pins', σ', H', cls, d, rfl, K', nb, up, sky, na, os, ag, w⟩ := air
    have K0 : Inv X pins σ' H' sI := K'.ofTry okX
    have sky1 : Sky B (X.env :: X.outer) a (Zc cls d) X.env.locals s'.heap := hs ▸ sky
    show wpAny (model X.prog X.w) X.A (noteFrame (.ref a) X.env) _ _ _
    apply Sky.land Zc.steady frames hf sky1
    intro h3 fl3 up3
    have J3 : Inv X pins σ' H' { s' with heap := h3 } := K0.landed nb fl3.1 (up.trans up3) os ag
    obtain ⟨oe3, vs3, at3, z3, data3⟩ := fl3.there
    have offFrames : a ∉ frs (X.env :: X.outer) := fun hm => by
      obtain ⟨_, o', there', hnf⟩ := fl3.2.2.1.mem hm
      rw [at3] at there'
      cases there'
      exact hnf _ data3
    have nL : a ≠ X.env.locals := fun e => offFrames (List.mem_filterMap.mpr ⟨X.env, List.mem_cons_self, by rw [hf, e]⟩)
    have nF : a ∉ X.fs := fun hm => by
      obtain ⟨e, he, q⟩ := List.mem_filterMap.mp hm
      exact offFrames (List.mem_filterMap.mpr ⟨e, List.mem_cons_of_mem _ he, q⟩)
    -- a is new: it stood neither at the try's entry nor at the def's
    have newB : B.get? a = none := fl3.2.1
    have newI : sI.heap.get? a = none := by
      cases q : sI.heap.get? a with
      | none => rfl
      | some o =>
        have := nb a o q (by rw [hs]; exact offFrames)
        rw [newB] at this
        cases this
    have new0 : X.s_0.heap.get? a = none := by
      cases q : X.s_0.heap.get? a with
      | none => rfl
      | some o =>
        obtain ⟨o', q'⟩ := K0.base.there a o q (by rw [hex]; exact List.not_mem_nil)
        rw [newI] at q'
        cases q'
    have apart : ∀ p ∈ X.pn ++ pins, p.1 ≠ a := fun p hp e => by
      have := (K0.pin p hp).1
      rw [e, newI] at this
      cases this
    have S3 := J3.suite at3 data3 na nL nF
    have go : ∀ {hds' : List ExceptHandler} {l' : List HdA}, HdsA X hds' l' → wManyA X.K Wout D l' cls d σ' H' →
        wpAny (model X.prog X.w) X.A (handleBy (.ref a) X.env hds') (SP X pins D) X.xe { s' with heap := h3 } := by
      intro hds' l' hk
      induction hk with
      | nil =>
        intro no
        apply wpAny_handleBy_nil
        obtain ⟨_, _, _, oe, vs, T, oT, ts', he, hz, hd, h1, hr⟩ := id fl3
        unfold PySem.passOn
        refine wpAny_bind (wpAny_field he hd h1 ?_)
        rw [if_neg (show ¬ ((Value.ref T == Value.none) = true) from by simp)]
        have on : wpAny (model X.prog X.w) X.A (setFlight (.ref a) X.env.frame) (fun _ s4 => wpAny (model X.prog X.w) X.A (throw (.ref a) : Sem Flow) (SP X pins D) X.xe s4) X.xe { s' with heap := h3 } := by
          rw [hf]
          apply HandSPX.setFlight_upZ fl3
          intro h4 held4 up4
          apply wpAny_throw
          apply tk
          exact ⟨a, B, sI, pins, σ', H', cls, d, rfl, K0, nb, (up.trans up3).trans up4, .inr (.inr (by rw [hs]; exact held4)), na, os, ag, no⟩
        first
          | exact wpAny_bind (wpAny_pure (wpAny_bind on))
          | exact wpAny_bind on

      | @cons x c ts b₀ suite np pos' hds2 l2 hc hsu r ih =>
        intro w
        obtain ⟨b, exm, yes, no⟩ := w
        refine wpAny_handleBy_cons (codeAny_handlers_test ?_) (by intro q; cases q)
        have tyA : PySem.W.Looks (model X.prog X.w) h3 (typeOf (.ref a)) cls := fun A Q E t k q => wpAny_typeOf_ref (k _ _ at3) (by rw [z3.1]; exact q)
        have matched := PySem.W.exm_one (M := model X.prog X.w) (J3.kIn) tyA exm
        have named : ∀ {Q : Value → Shared → Prop} {E : Value → Shared → Prop}, Q c { s' with heap := h3 } → wpAny (model X.prog X.w) (X.A.mark (some (.ref a))) (eval (.Name x np) X.env) Q E { s' with heap := h3 } := by
          intro Q E q
          obtain ⟨hg, hdbg, hm⟩ := hc
          rcases hm with hm | ⟨hm, hv, hnn⟩
          · exact ld_glob (X := X.suite a ((a, oe3) :: (X.pn ++ pins))) S3 hg hm q hdbg
          · exact ld_blt (X := X.suite a ((a, oe3) :: (X.pn ++ pins))) S3 hg hm hv q hnn hdbg
        apply named
        apply matched.here
        cases b with
        | true =>
          refine codeAny_handlers_suite ?_
          refine HandSPX.lands_againZ fl3 fun h4 fl4 up4 => ?_
          have J4 : Inv X pins σ' H' { s' with heap := h4 } := K0.landed nb fl4.1 ((up.trans up3).trans up4) os ag
          obtain ⟨oe4, vs4, he4, hz4, hd4⟩ := fl4.there
          have S4 := J4.suite he4 hd4 na nL nF
          refine wpAny_mono ((hsu a oe4 cls d (X.pn ++ pins) hz4 ⟨_, hd4⟩).run [] _ _ H' _ S4 (yes rfl a na)) (fun f s6 hsp => ?_) (fun _ _ z => False.elim z)
          cases f with
          | next =>
            obtain ⟨σ6, H6, S6, q6⟩ := hsp
            exact ⟨_, _, S6.unsuite okX, q6⟩
          | brk =>
            obtain ⟨σ6, H6, S6, q6⟩ := hsp
            exact ⟨_, _, S6.unsuite okX, q6⟩
          | cont =>
            obtain ⟨σ6, H6, S6, q6⟩ := hsp
            exact ⟨_, _, S6.unsuite okX, q6⟩
          | ret u =>
            obtain ⟨v6, σ6, H6, S6, r6, q6⟩ := hsp
            exact ⟨_, _, _, S6.unsuite okX, r6, q6⟩
        | false =>
          show wpAny _ X.A (handleBy (.ref a) X.env hds2) _ _ _
          exact ih (no rfl)
      | @consA x n c i ts b₀ suite np pos' hds2 l2 hi hln hc hsu r ih =>
        intro w
        obtain ⟨b, exm, yes, no⟩ := w
        refine wpAny_handleBy_cons (codeAny_handlers_test ?_) (by intro q; cases q)
        have tyA : PySem.W.Looks (model X.prog X.w) h3 (typeOf (.ref a)) cls := fun A Q E t k q => wpAny_typeOf_ref (k _ _ at3) (by rw [z3.1]; exact q)
        have matched := PySem.W.exm_one (M := model X.prog X.w) (J3.kIn) tyA exm
        have named : ∀ {Q : Value → Shared → Prop} {E : Value → Shared → Prop}, Q c { s' with heap := h3 } → wpAny (model X.prog X.w) (X.A.mark (some (.ref a))) (eval (.Name x np) X.env) Q E { s' with heap := h3 } := by
          intro Q E q
          obtain ⟨hg, hdbg, hm⟩ := hc
          rcases hm with hm | ⟨hm, hv, hnn⟩
          · exact ld_glob (X := X.suite a ((a, oe3) :: (X.pn ++ pins))) S3 hg hm q hdbg
          · exact ld_blt (X := X.suite a ((a, oe3) :: (X.pn ++ pins))) S3 hg hm hv q hnn hdbg
        apply named
        apply matched.here
        cases b with
        | true =>
          apply codeAny_handlers_suite_as
          apply HandSPX.lands_againZ fl3
          intro h4 fl4 up4
          have J4 : Inv X pins σ' H' { s' with heap := h4 } := K0.landed nb fl4.1 ((up.trans up3).trans up4) os ag
          obtain ⟨oe4, vs4, at4, z4, data4⟩ := fl4.there
          have S4 := J4.suite at4 data4 na nL nF
          refine store_ok (X := X.suite a ((a, oe4) :: (X.pn ++ pins))) (v := .ref a) S4 hN hi (.inl hln) rfl (fun s5 S5 => ?_) (.inr hln)
          refine wpAny_mono ((hsu a oe4 cls d (X.pn ++ pins) z4 ⟨_, data4⟩).run [] s5 _ H' _ S5 (yes rfl a na)) (fun f s6 hsp => ?_) (fun _ _ z => z.elim)
          -- out of the suite, the exception still pinned
          have out : ∀ {σ6 : L2.St} {H6 : Hp} {Q : Shared → Prop}, Inv (X.suite a ((a, oe4) :: (X.pn ++ pins))) [] σ6 H6 s6 → (∀ s7, Inv X pins (σ6.set i none) H6 s7 → H6 a = none → s7.heap.get? a = some oe4 → Q s7) →
              wpAny (model X.prog X.w) X.A (do bindName X.env n .none; unbindBehindTheSuite X.env n pos') (fun _ s7 => Q s7) X.xe s6 := fun {σ6 H6 Q} S6 hq => by
            have P6 : Inv X ((a, oe4) :: pins) σ6 H6 s6 := { S6.unsuite okX with
              pin := fun p hp => S6.pin p (by
                rcases List.mem_append.mp hp with hp | hp
                · exact List.mem_append_left _ (List.mem_cons_of_mem _ (List.mem_append_left _ hp))
                · rcases List.mem_cons.mp hp with e | hp
                  · rw [e]; exact List.mem_append_left _ List.mem_cons_self
                  · exact List.mem_append_left _ (List.mem_cons_of_mem _ (List.mem_append_right _ hp))) }
            refine gone_ok P6 hN hi hln fun s7 P7 => ?_
            have pinned := P7.pin (a, oe4) (List.mem_append_right _ List.mem_cons_self)
            refine hq s7 { P7 with pin := fun p hp => P7.pin p ?_ } pinned.2.1 pinned.1
            rcases List.mem_append.mp hp with hp | hp
            · exact List.mem_append_left _ hp
            · exact List.mem_append_right _ (List.mem_cons_of_mem _ hp)
          match f, hsp with
          | .next, ⟨σ6, H6, S6, q6⟩ => exact out S6 fun s7 J7 n6 a6 => ⟨_, _, track J7 n6 a6 z4 data4 new0 nL apart, q6 n6⟩
          | .brk, ⟨σ6, H6, S6, q6⟩ => exact out S6 fun s7 J7 _ _ => ⟨_, _, J7, q6⟩
          | .cont, ⟨σ6, H6, S6, q6⟩ => exact out S6 fun s7 J7 _ _ => ⟨_, _, J7, q6⟩
          | .ret u, ⟨v6, σ6, H6, S6, r6, q6⟩ => exact out S6 fun s7 J7 _ _ => ⟨_, _, _, J7, r6, q6⟩
        | false =>
          show wpAny _ X.A (handleBy (.ref a) X.env hds2) _ _ _
          exact ih (no rfl)
    exact go hh w
  refine wpAny_mono ((hb (wManyA X.K Wout D l) (X.pn ++ pins) look caught PassesOwn.looking).run [] s0 σ0 H0 D (I0.toTry _) start) (fun f s1 hsp => ?_) (fun e s1 he => he)
  match f, hsp with
  | .next, ⟨σ1, H1, J1, q⟩ => exact wpAny_execs_nil ⟨σ1, H1, J1.ofTry okX, q⟩
  | .brk, ⟨σ1, H1, J1, q⟩ => exact ⟨σ1, H1, J1.ofTry okX, q⟩
  | .cont, ⟨σ1, H1, J1, q⟩ => exact ⟨σ1, H1, J1.ofTry okX, q⟩
  | .ret u, ⟨v, σ1, H1, J1, r, q⟩ => exact ⟨v, σ1, H1, J1.ofTry okX, r, q⟩
end
theorem L_many {K : PySem.W.Frag} {H : Hp} {c : Value} {ts : Addr → Value → Option Addr → TS} {r : List HdA} {Wout : WX} {D : Ends} {σ : L2.St} {cls : Value} {d : Option Addr} (h : PySem.W.exmOne K cls c = some true)
    (q : ∀ a, H a = none → ts a cls d D σ H) : wManyA K Wout D ((c, none, ts) :: r) cls d σ H := ⟨true, h, fun _ => q, fun z => nomatch z⟩
theorem L_manyA {K : PySem.W.Frag} {H : Hp} {c : Value} {i : Nat} {ts : Addr → Value → Option Addr → TS} {r : List HdA} {Wout : WX} {D : Ends} {σ : L2.St} {cls : Value} {d : Option Addr} (h : PySem.W.exmOne K cls c = some true)
    (q : ∀ a, H a = none → ts a cls d ⟨fun σ' H' => H' a = none → D.nx (σ'.set i none) (upd H' a (ExI cls d a)), D.rt, fun σ' H' => D.bk (σ'.set i none) H', fun σ' H' => D.ct (σ'.set i none) H'⟩ (σ.set i (some (.ref a))) H) : wManyA K Wout D ((c, some i, ts) :: r) cls d σ H := ⟨true, h, fun _ => q, fun z => nomatch z⟩
theorem L_manyN {K : PySem.W.Frag} {H : Hp} {c : Value} {ts : Addr → Value → Option Addr → TS} {r : List HdA} {Wout : WX} {D : Ends} {σ : L2.St} {cls : Value} {d : Option Addr} (h : PySem.W.exmOne K cls c = some false)
    (q : wManyA K Wout D r cls d σ H) : wManyA K Wout D ((c, none, ts) :: r) cls d σ H := ⟨false, h, (fun z => nomatch z), fun _ => q⟩
/-! ### a != b of two lists of the same objects; xs[i] op= e; any of ints -/
def rNeRefs (K : PySem.W.Frag) : R2 := fun x y H Q => ∃ (a b : Addr) (os : List Addr), x = .ref a ∧ y = .ref b ∧ SqL K H a (os.map V.ref) ∧ SqL K H b (os.map V.ref) ∧ Q (.bl false) H
theorem vals_refs : ∀ {os : List Addr} {us : List Value}, Vals (os.map V.ref) us → us = os.map Value.ref
  | [], _, r => by cases r; rfl
  | o :: os, _, r => by
    cases r with
    | cons h t =>
      rw [show _ = Value.ref o from h, vals_refs t]
      rfl
theorem op_neRefs {X : Cx} (hu : X.A.units < cLine) : OpR X (compareOp .NotEq) (rNeRefs X.K) := by
  intro pins s σ H x y v u Q I rx ry h
  obtain ⟨a, b, os, rfl, rfl, ha, hb, q⟩ := h
  cases (show v = Value.ref a from rx)
  cases (show u = Value.ref b from ry)
  obtain ⟨us, r1, p1, _⟩ := I.list ha
  obtain ⟨ws, r2, p2, _⟩ := I.list hb
  obtain rfl := vals_refs r1
  obtain rfl := vals_refs r2
  refine SeqAt.RcNeAt.lists (e := fun _ => true) p1.isList p2.isList rfl hu (fun j h1 h2 => SeqAt.EqAt.same _) X.prog X.w _ _ ?_
  exact ⟨.bl false, H, I, by
    show Value.bool _ = Value.bool _
    rw [show ((List.range _).all fun _ => true) = true from List.all_eq_true.mpr fun _ _ => rfl]
    rfl, q⟩
def rGetL (K : PySem.W.Frag) : V → V → Hp → VK → Prop := fun o i H Q => ∃ (p : Addr) (xs : List V) (k : Int) (v : V), o = .ref p ∧ i = .int k ∧ SqL K H p xs ∧ 0 ≤ k ∧ xs[k.toNat]? = some v ∧ Q v H
theorem pget_list {X : Cx} : PGet X (rGetL X.K) := by
  intro pins s σ H o i ov iv Q I ro ri h
  obtain ⟨p, xs, k, v, rfl, rfl, hL, h0, hv, q⟩ := h
  cases (show ov = Value.ref p from ro)
  obtain ⟨t, rfl⟩ := ri
  obtain ⟨its, r, pl, hz⟩ := I.list hL
  obtain ⟨u, eu, ru⟩ := r.get hv
  have hl := r.length
  have hn := line63
  have lt := (List.getElem?_eq_some_iff.mp hv).1
  exact wpAny_getItem_list pl.isList h0 (by omega) (by simpa using eu) ⟨v, H, I, ru, q⟩
theorem L_augS {σ : L2.St} {H : Hp} {to ti te : TE} {tget : V → V → Hp → VK → Prop} {tip : TIp} {tset : TSet} {N B C : L2.St → Hp → Prop} {R : VK} (h : to σ H fun o H1 => ti σ H1 fun i H2 => tget o i H2 fun x H3 => te σ H3 fun y H4 => tip x y H4 fun z H5 => tset o i z H5 fun H6 => N σ H6) : tAugS to ti te tget tip tset ⟨N, R, B, C⟩ σ H := h
theorem L_getL {K : PySem.W.Frag} {H : Hp} {Q : VK} {p : Addr} {xs : List V} {k : Int} {v : V} (h : SqL K H p xs) (h0 : 0 ≤ k) (hv : xs[k.toNat]? = some v) (q : Q v H) : rGetL K (.ref p) (.int k) H Q := ⟨p, xs, k, v, rfl, rfl, h, h0, hv, q⟩
theorem truth_of_ints {prog : Program} {w : World} {A : Around} {ns : List Int} {its : List Value} (e : IntsAre its ns) :
    TruthOf prog w A (fun i v => its.toArray[i]? = some v) (fun i => ns.getD i 0 != 0) := fun i v s Q E hv hq => by
  have hv' : its[i]? = some v := by simpa using hv
  obtain ⟨tk, e2⟩ := PyProof.Rows.IntsAre.int_at e i v hv'
  rw [e2]
  exact truthy_int hq
theorem any_ints : ∀ ns : List Int, (List.range ns.length).any (fun i => ns.getD i 0 != 0) = ns.any (· != 0)
  | [] => rfl
  | n :: ns => by
    have ih := any_ints ns
    rw [List.length_cons, List.range_succ_eq_map, List.any_cons, List.any_map, List.any_cons, ← ih]
    rfl
def rAnyI (K : PySem.W.Frag) : List V → Hp → VK → Prop := fun vs H Q => ∃ (a : Addr) (ns : List Int), vs = [.ref a] ∧ SqL K H a (ns.map V.int) ∧ Q (.bl (ns.any (· != 0))) H
theorem cr_anyI {X : Cx} (calm : X.calm = true) : CallR X (.builtin "any") (rAnyI X.K) := by
  intro pins s σ H vs us Q I r h
  obtain ⟨a, ns, rfl, hL, q⟩ := h
  obtain ⟨its, rv, pl, _⟩ := I.list hL
  have few := rv.length
  rw [Vals.ref1 r]
  apply call_any_walk
  apply iter_any pl.isList
  intro s2 e2 st apart
  subst e2
  refine ⟨_, _, _, _, _, _, _, rfl, Walks.list (A := X.A.in1) (I.ok.hd calm) _ a apart its.toArray, st, truth_of_ints (intsAre_of rv), fun g tk k => ?_⟩
  refine ⟨.bl _, H, I.kept fun b o eo => k b o ?_ (Heap.get?_push_of_some _ eo), ?_, q⟩
  · intro hm
    rw [List.mem_singleton] at hm
    exact absurd (hm ▸ Heap.lt_size eo) (Nat.lt_irrefl _)
  · change Value.bool _ = Value.bool _
    rw [← any_ints, List.size_toArray, ← few, List.length_map]
/-! ### for k in d -/
theorem L_lock {t : TS} {N B C : L2.St → Hp → Prop} {R : VK} {σ : L2.St} {H : Hp} (h : ∃ d u, H d = some u ∧ Mut (some u) ∧ ∀ od, t ⟨fun σ' H' => H' d = some (.frz od u) ∧ N σ' (upd H' d u), fun v H' => H' d = some (.frz od u) ∧ R v (upd H' d u), fun σ' H' => H' d = some (.frz od u) ∧ B σ' (upd H' d u), fun σ' H' => H' d = some (.frz od u) ∧ C σ' (upd H' d u)⟩ σ (upd H d (.frz od u))) : tLock t ⟨N, R, B, C⟩ σ H := h
theorem L_iKeys {td : TE} {σ : L2.St} {H : Hp} {R : It → Hp → Prop} (h : td σ H fun x H1 => ∃ d o, x = .ref d ∧ ((∃ kvs, H1 d = some (.frz o (.dK kvs)) ∧ R (Itk d o kvs) H1) ∨ ∃ kvs, H1 d = some (.frz o (.dT kvs)) ∧ R (Itkt d o kvs) H1)) : iKeys td σ H R := h
theorem L_rk {H : Hp} {d : Addr} {o : Obj} {kvs : List (Key × V)} {R : Addr → Obj → List (Key × V) → Prop} {R2 : Addr → Obj → Prop} (h : H d = some (.frz o (.dK kvs))) (q : R d o kvs) : ∃ d' o', V.ref d = .ref d' ∧ ((∃ kvs, H d' = some (.frz o' (.dK kvs)) ∧ R d' o' kvs) ∨ R2 d' o') := ⟨d, o, rfl, .inl ⟨kvs, h, q⟩⟩
theorem same_lock {H H' : Hp} {d : Addr} {u : HO} {od : Obj} (h : H d = some u) (s : Same (upd H d (.frz od u)) H') : Same H (upd H' d u) := fun b o e => by
  by_cases n : b = d
  · rw [n, h] at e
    cases e
    rw [n]
    exact upd_same
  · rw [upd_ne n]
    exact s _ _ (by rw [upd_ne n]; exact e)
end Kt

set_option Elab.async false
set_option linter.all false
set_option maxRecDepth 100000
set_option maxHeartbeats 4000000
/-! DtL: dicts with tuple keys: items walked, dict(list of pairs) -/
namespace Kt
open PySem PySem.Spec PyProof.Rows L2
/-- the items of the locked dict at d: each a new pair of the key's own tuple and the value -/
def Itit (d : Addr) (o : Obj) (kvs : List (List L2.Key × V)) : It :=
  ⟨fun i H => H d = some (.frz o (.dT kvs)) ∧ i < kvs.length, fun i H x H' => ∃ (T q : Addr) (k : List L2.Key) (v : V), kvs[i]? = some (k, v) ∧ x = .ref T ∧ H T = none ∧ H q = some (.tup (k.map kV)) ∧ H' = upd H T (.tup [.ref q, v]), fun i H => H d = some (.frz o (.dT kvs)) ∧ kvs.length ≤ i⟩
section
variable {X : Cx} {pins : List (Addr × Obj)} {σ : L2.St} {H : Hp} {s : Shared} {d : Addr} {o : Obj}
theorem frzT2 {kvs : List (List L2.Key × V)} (I : Inv X pins σ H s) (h : H d = some (.frz o (.dT kvs))) :
    (d == sysModules) = false ∧ ∃ (es : Array DictEntry) (ep : Nat), o.data = .dict es ep ∧ DT.Raw s.heap d es ep ∧ es.size = kvs.length ∧
      ∀ (i : Nat) (k : List L2.Key) (v : V), kvs[i]? = some (k, v) → ∃ (en : DictEntry) (q : Addr), es[i]? = some en ∧ en.key = .ref q ∧ RelV v en.val ∧ H q = some (.tup (k.map kV)) := by
  obtain ⟨hd, z, hs, xs, pr, o', es, ep, ho, hx, hdt, he, _⟩ := I.hok d _ h
  rw [hd] at ho
  cases ho
  refine ⟨hs, es, ep, hdt, ⟨o, hd, hx, hdt⟩, ?_, fun i k v e => ?_⟩
  · have l1 : es.size = xs.length := size_of_entries he
    have l2 : kvs.length = xs.length := Paired.length pr
    omega
  · obtain ⟨b, hb, e1, e2, e3⟩ := paired_get pr e
    have q := entry_at he i
    rw [hb] at q
    exact ⟨_, b.2.1, q, rfl, e3, e2⟩
end
section
variable {P : Program} {w : World} {K : PySem.W.Frag} {tg : Expr} {d : Addr} {o : Obj} {es : Array DictEntry} {ep : Nat}
theorem turn_itemsT {kvs : List (List L2.Key × V)} {elts : List Expr} {kk : Nat} {tpos : Pos} (it : Addr) (hod : o.data = .dict es ep) :
    Turn P w K (.Tuple elts kk tpos) (Itit d o kvs) [it] it (fun i h => ∃ ok ov, IsItemIter h it d i kvs.length ep ok ov) where
  mem := by simp
  obj := fun i h st b hb => by
    have e : b = it := by simpa using hb
    subst e
    obtain ⟨ok, ov, e⟩ := st
    exact ⟨_, e, fun v z => nomatch z⟩
  keep := fun i h h' st k => let ⟨ok, ov, e⟩ := st; ⟨ok, ov, k it (by simp) _ e⟩
  item := by
    intro X hP hw hK hc i pins s σ H E I hf st hg
    subst hP hw hK
    obtain ⟨hd, hi⟩ := hg
    obtain ⟨hs, es', ep', hdt, raw, hsz, ent⟩ := frzT2 I hd
    obtain ⟨rfl, rfl⟩ := dict_ep hod hdt
    obtain ⟨⟨k, v⟩, hkv⟩ : ∃ p, kvs[i]? = some p := ⟨kvs[i], List.getElem?_eq_getElem hi⟩
    obtain ⟨en, q, hen, hkey, hval, hq⟩ := ent i k v hkv
    have hi2 : i < es'.size := by omega
    have hen2 : es'[i] = en := by
      rw [Array.getElem?_eq_getElem hi2] at hen
      exact Option.some.inj hen
    obtain ⟨ok, ov, he⟩ := st
    rw [← hsz] at he
    have hlt : it < s.heap.objs.size := Heap.lt_size he
    refine DT.nextI he raw hi2 fun h' ho hT hz hk => ?_
    rw [hen2] at ho hT
    refine ⟨_, rfl, wpAny_letOwnedTupleGo_items (s := { s with heap := h' }) ho fun h'' he' sb => ?_⟩
    have hT2 : h''.get? s.heap.objs.size = some { cls := .type "tuple", data := .seq #[en.key, en.val] } := (sb.2 _ (Nat.ne_of_gt hlt)).trans hT
    have new : ObjOk X.prog X.w (upd H s.heap.objs.size (.tup [.ref q, v])) h'' s.heap.objs.size (.tup [.ref q, v]) :=
      ⟨by show 2 ≤ sizeLine; decide, [en.key, en.val], .cons hkey (.cons hval .nil), ⟨_, hT2, rfl, _, rfl⟩⟩
    have I1 : Inv X pins σ (upd H s.heap.objs.size (.tup [.ref q, v])) { s with heap := h'' } :=
      I.turnedNew (t' := s.toks) (ch := [it]) (fun b ob hb e => (sb.2 b (by simpa using hb)).trans (hk b ob (by simpa using hb) e)) hf (Nat.le_refl _) new
    refine ⟨.ref s.heap.objs.size, _, I1, rfl, ⟨_, q, k, v, hkv, rfl, I.hok.fresh (Nat.le_refl _), hq, rfl⟩, ⟨en.key, en.val, ?_⟩, fun b hb => ?_⟩
    · rw [← hsz]; exact he'
    · have e : b = it := by simpa using hb
      rw [e, upd_ne (Nat.ne_of_lt hlt)]
      exact (hf it (by simp)).1
  done := by
    intro X hP hw hK hc i pins s σ H E I hf st hg
    subst hP hw hK
    obtain ⟨hd, hi⟩ := hg
    obtain ⟨f0, f1, f2, f3, f4, f5⟩ := hf it (by simp)
    obtain ⟨hs, es', ep', hdt, raw, hsz, ent⟩ := frzT2 I hd
    obtain ⟨rfl, rfl⟩ := dict_ep hod hdt
    obtain ⟨ok, ov, he⟩ := st
    rw [← hsz] at he
    exact DT.endI (I.ok.hd hc) he raw (by omega) fun h' eb => ⟨rfl, I.turned (t' := s.toks) (fun b ob hb e => eb b ob hb e) f0 f1 f3 f4 f5⟩
  self := fun A i s Q E st h => let ⟨_, _, e⟩ := st; PySem.W.kcp_self e h
end
def iItemsT (td : TE) : TI := fun σ H R => td σ H fun x H1 => ∃ d o kvs, x = .ref d ∧ H1 d = some (.frz o (.dT kvs)) ∧ R (Itit d o kvs) H1
section
variable {X : Cx} {tg e : Expr} {td : TE} {apos cpos : Pos}
theorem pi_itemsT {elts : List Expr} {kk : Nat} {tpos : Pos} (he : PE X e td) (hbase : attributeBase e "items" X.env (eval e X.env) = eval e X.env := by rfl) (hline : (apos.endLine == cpos.line) = true := by rfl) :
    PI X (.Tuple elts kk tpos) (.Call (.Attribute e "items" apos) [] [] cpos) (iItemsT td) := by
  refine ⟨fun pins s σ H R I h => ?_⟩
  refine wpAny_Call_method (T := "dict") (id := "dict.items") hbase rfl hline F.plainAttrs_dict F.slot_dict_items F.type_dict_items (thn (he.run pins s σ H _ I h) fun u s1 ⟨x, H1, I1, rx, d, o, kvs, ex, hd, q⟩ => ?_)
  subst ex
  obtain rfl : u = Value.ref d := rx
  obtain ⟨hs, es, ep, hdt, raw, hsz, ent⟩ := frzT2 I1 hd
  refine ⟨raw.typeIs, (fun b hb => by cases hb; obtain ⟨o', ho', hx', _⟩ := raw; exact ⟨o', ho', hx'.2.1⟩), ?_⟩
  have I2 : Inv X pins σ H1 { s1 with heap := s1.heap.push { cls := .type "dict_items", data := .fields #[.ref d] } } := I1.kept (t' := s1.toks) fun b ob q => Heap.get?_push_of_some _ q
  have fin : wpAny (model X.prog X.w) X.A (pyIter (.ref s1.heap.objs.size)) (PIE X pins σ (.Tuple elts kk tpos) R) X.xe { s1 with heap := s1.heap.push { cls := .type "dict_items", data := .fields #[.ref d] } } := by
    refine DT.iterI (d := d) ⟨_, Heap.get?_push_size _ rfl, rfl, rfl⟩ (raw.push _) (pi_one (tk := s1.toks) I2 _ (turn_itemsT _ hdt) ⟨.none, .none, ?_⟩ q)
    rw [← hsz]
    exact Heap.get?_push_size _ rfl
  show wpAny _ _ (callWith cpos (.builtin "dict.items") [.ref d] [] []) _ X.xe s1
  exact method_meetsIn F.slot_dict_items F.entry_dict_items rfl (PySem.evalArgs_none ⟨rfl, raw.typeIs, F.args_dict_items_1 _, _, DT.meetsItems hs, ⟨raw, fin⟩⟩)
end
theorem walk_itemsT {d : Addr} {o : Obj} {kvs : List (List L2.Key × V)} : Walk (Itit d o kvs) kvs.length (fun H => H d = some (.frz o (.dT kvs)))
    (fun i H x H' => ∃ (T q : Addr) (k : List L2.Key) (v : V), kvs[i]? = some (k, v) ∧ x = .ref T ∧ H T = none ∧ H q = some (.tup (k.map kV)) ∧ H' = upd H T (.tup [.ref q, v])) :=
  ⟨fun _ _ hi q => ⟨q, hi⟩, fun _ q => ⟨q, Nat.le_refl _⟩, fun _ _ _ _ _ _ y => y⟩
theorem L_iItemsT {td : TE} {σ : L2.St} {H : Hp} {R : It → Hp → Prop} (h : td σ H fun x H1 => ∃ d o kvs, x = .ref d ∧ H1 d = some (.frz o (.dT kvs)) ∧ R (Itit d o kvs) H1) : iItemsT td σ H R := h
/-! ### dict(list of pairs), keys tuples -/
def allK (kvs : List (List L2.Key × V)) : List (List L2.Key × V) := kvs.foldl (fun acc p => putK acc p.1 p.2) []
def PairK (H : Hp) (u : V) (p : List L2.Key × V) : Prop := ∃ T q, u = .ref T ∧ H T = some (.tup [.ref q, p.2]) ∧ H q = some (.tup (p.1.map kV))
def rDictT : List V → Hp → VK → Prop := fun xs H Q => ∃ (a : Addr) (us : List V) (kvs : List (List L2.Key × V)), xs = [.ref a] ∧ H a = some (.lst us) ∧ Paired (PairK H) us kvs ∧ ∀ d, H d = none → Q (.ref d) (upd H d (.dT (allK kvs)))
theorem kt_all {H : Hp} : ∀ (kvs : List (List L2.Key × V)) (ps : List (List L2.Key × Addr × Value)) (acc : List (List L2.Key × V)) (xs : List (List L2.Key × Addr × Value)), KT H kvs ps → KT H acc xs → KT H (kvs.foldl (fun acc p => putK acc p.1 p.2) acc) (storedAllH xs ps)
  | _, _, acc, xs, .nil, h => h
  | _, _, acc, xs, .cons (a := p) (b := b) h1 t, h => by
    unfold storedAllH
    rw [List.foldl_cons, List.foldl_cons]
    have e : b.1 = p.1 := h1.1.symm
    have h2 := h.put p.1 (b := b.2.1) h1.2.1 h1.2.2
    rw [← e] at h2
    rw [← e]
    exact kt_all _ _ _ _ t h2
theorem putT_len {kvs : List (List L2.Key × V)} {k : List L2.Key} {v : V} : (putK kvs k v).length ≤ kvs.length + 1 := by
  unfold putK
  split
  · rw [List.length_map]
    omega
  · rw [List.length_append]
    exact Nat.le_refl _
theorem allK_len : ∀ (kvs acc : List (List L2.Key × V)), (kvs.foldl (fun acc p => putK acc p.1 p.2) acc).length ≤ acc.length + kvs.length
  | [], acc => Nat.le_refl _
  | p :: kvs, acc => by
    have h1 := allK_len kvs (putK acc p.1 p.2)
    have h2 := putT_len (kvs := acc) (k := p.1) (v := p.2)
    rw [List.foldl_cons, List.length_cons]
    omega
def adr : V → Addr
  | .ref T => T
  | _ => 0
theorem call_dictT {X : Cx} (calm : X.calm = true) (hu : X.A.units + 65 < cLine) : CallR X (.type "dict") rDictT := by
  intro pins s σ H xs us Q I r h
  obtain ⟨a, zs, kvs, rfl, ha, hp, q⟩ := h
  rw [Vals.ref1 r]
  obtain ⟨hl, its, n, rv, ho⟩ := (show ObjOk X.prog X.w H s.heap a (.lst zs) from I.hok a _ ha)
  -- the keys and the values as they stand
  have key : ∀ {zs : List V} {its : List Value} {kvs : List (List L2.Key × V)}, Vals zs its → Paired (PairK H) zs kvs → ∃ ps : List (List L2.Key × Addr × Value), KT H kvs ps ∧ its.length = ps.length ∧ ∀ (j : Nat) (k : List L2.Key) (b : Addr) (v : Value), ps[j]? = some (k, b, v) → ∃ T : Addr, zs[j]? = some (V.ref T) ∧ its[j]? = some (Value.ref T) ∧ IsTup s.heap T #[.ref b, v] := by
    intro zs its kvs rv hp
    induction hp generalizing its with
    | nil =>
      cases rv
      exact ⟨[], .nil, rfl, fun j k b v z => by simp at z⟩
    | @cons u p zs kvs h1 t ih =>
      cases rv with | @cons _ v0 _ its r1 r2 =>
      obtain ⟨ps, k1, k2, k3⟩ := ih r2
      obtain ⟨T, q0, rfl, e1, e2⟩ := h1
      cases (show v0 = Value.ref T from r1)
      obtain ⟨_, it2, rv2, o2, g1, g2, g3⟩ := (show ObjOk X.prog X.w H s.heap T (.tup [.ref q0, p.2]) from I.hok T _ e1)
      cases rv2 with | @cons _ w1 _ _ r3 r4 =>
      cases r4 with | @cons _ w2 _ _ r5 r6 =>
      cases r6
      cases (show w1 = Value.ref q0 from r3)
      refine ⟨(p.1, q0, w2) :: ps, .cons ⟨rfl, e2, r5⟩ k1, by rw [List.length_cons, List.length_cons, k2], fun j k b v z => ?_⟩
      cases j with
      | zero =>
        simp only [List.getElem?_cons_zero, Option.some.injEq, Prod.mk.injEq] at z
        obtain ⟨rfl, rfl, rfl⟩ := z
        exact ⟨T, rfl, rfl, o2, g1, g2, g3⟩
      | succ j =>
        simp only [List.getElem?_cons_succ] at z ⊢
        exact k3 j k b v z
  obtain ⟨ps, k1, k2, k3⟩ := key rv hp
  have lk : kvs.length = ps.length := Paired.length k1
  have lz : zs.length = kvs.length := Paired.length hp
  have lps : ps.length ≤ sizeLine := by omega
  refine call_dict_pairsH (knd := tupleKind (mixKind X.prog X.w)) (ps := ps) (PairArg.list a its.toArray (fun j => adr (zs[j]?.getD .non)) (ps.map fun p => (Value.ref p.2.1, p.2.2))) (I.ok.hd calm) (show X.A.units + 1 + 1 < cLine by omega) ⟨⟨_, n, ho, rfl, rfl, rfl⟩, by simp [k2], fun j k v hj => ?_⟩ ⟨(List.length_map _).symm, fun i key v hi => ?_⟩ (fun h' hk x hx => ?_) (by rw [List.length_map]; exact lps) fun h' tk hd hk => ?_
  · rw [List.getElem?_map] at hj
    obtain ⟨p, hp1, hp2⟩ := Option.map_eq_some_iff.mp hj
    cases hp2
    obtain ⟨T, z1, z2, z3⟩ := k3 j p.1 p.2.1 p.2.2 hp1
    have za : adr (zs[j]?.getD .non) = T := by rw [z1]; rfl
    show its.toArray[j]? = some (Value.ref (adr (zs[j]?.getD .non))) ∧ PairAt s.heap (adr (zs[j]?.getD .non)) _ _
    rw [za]
    exact ⟨by simpa using z2, .inl z3⟩
  · rw [PairRel, List.getElem?_map] at hi
    obtain ⟨p, hp1, hp2⟩ := Option.map_eq_some_iff.mp hi
    cases hp2
    exact ⟨p.1, p.2.1, hp1, rfl⟩
  · have all : ∀ {l : List (List L2.Key × V)} {m : List (List L2.Key × Addr × Value)}, KT H l m → ∀ x ∈ m, H x.2.1 = some (.tup (x.1.map kV)) := by
      intro l m q
      induction q with
      | nil => intro x hx; exact nomatch hx
      | @cons p q ps qs hq t ih =>
        intro x hx
        rcases List.mem_cons.mp hx with e | hx
        · subst e
          rw [← hq.1]
          exact hq.2.1
        · exact ih x hx
    have e := all k1 x hx
    obtain ⟨o, it, m, g1, g2, g3, g4⟩ := (show IsTupleKey (mixKind X.prog X.w) s.heap x.1 x.2.1 from key_of I.hok e)
    exact ⟨o, it, m, hk _ _ (fun z => by rw [z] at g1; exact absurd (Heap.lt_size g1) (Nat.lt_irrefl _)) (by simp) g1, g2, g3, g4⟩
  · have hn : H s.heap.objs.size = none := I.hok.fresh (Nat.le_refl _)
    have h1 := kt_all kvs ps [] [] k1 .nil
    have l1 := allK_len kvs []
    have hsys : (s.heap.objs.size == sysModules) = false := by
      have := I.big
      simpa using Nat.ne_of_gt this
    have h2 : KT (upd H s.heap.objs.size (.dT (allK kvs))) (allK kvs) (storedAllH [] ps) := KT.keeps h1 fun b ys e => by rw [upd_ne (ne_of_none e hn)]; exact e
    obtain ⟨o, es, ep, z1, z2, z3, z4, _, z5⟩ := hd
    exact ⟨.ref _, _, I.laid (o := .dT (allK kvs)) (t' := tk) (fun b u e => hk b u (by simp) e) (Nat.le_refl _) ⟨by
      show (allK kvs).length ≤ sizeLine
      unfold allK
      rw [List.length_nil] at l1
      omega, hsys, _, h2, o, es, ep, z1, z2, z3, z4, z5⟩, rfl, q _ hn⟩
/-! ### {(..): v, ..}: keys tuples -/
theorem dict_pairsHA {prog : Program} {w : World} {K : Type} [DecidableEq K] {knd : HeapKind prog w K} {A : Around} {E : Value → Shared → Prop} {s : Shared} {env : Env} {keys : List (Option Expr)} {values : List Expr} {pos : Pos} {pairs : List (Sem Value × Sem Value)} {Q : Value → Shared → Prop} (hu : knd.room A)
    (hshape : (evalEachOpt keys env).zip ((evalEach values env).map fun v => do let x ← v; standAt pos; pure x) = pairs.map fun p => (some p.1, p.2)) (h0 : pairs ≠ []) (hlen : pairs.length ≤ 15)
    (h : wpAny (model prog w) A (evalPairs pairs) (fun vs s₁ => ∃ ps, CarriesH knd s₁.heap vs ps ∧ s₁.heap.DictOfH knd s.heap.objs.size [] ∧
      ∀ h' tk, h'.DictOfH knd s.heap.objs.size (storedAllH [] ps) → Heap.SameBut s.heap.objs.size s₁.heap h' → Q (.ref s.heap.objs.size) { s₁ with heap := h', toks := tk }) E
      { s with heap := s.heap.push { cls := .type "dict", data := .dict #[] } }) :
    wpAny (model prog w) A (eval (.Dict keys values pos) env) Q E s := by
  rw [arm_eval_Dict, hshape, dictDisplay_pairs pairs h0 (by omega)]
  exact wpAny_bind (wpAny_standAt (wpAny_bind (wpAny_subDictH (knd := knd) (Q := fun d s' => wpAny (model prog w) A (pure (Value.ref d)) Q E s') hu hlen
    (wpAny_mono h (fun vs s₁ h₁ => by obtain ⟨ps, hc, hm, hq⟩ := h₁; exact ⟨ps, hc, hm, fun h' tk a b => wpAny_pure (hq h' tk a b)⟩) fun _ _ e => e))))
def tDispT (trs : List (TE × TE)) : TE := fun σ H Q => ∀ p, H p = none → tPairs trs σ (upd H p (.dT [])) fun ps H2 => H2 p = some (.dT []) ∧ ∃ kvs : List (List L2.Key × V), Paired (fun (q : V × V) (kv : List L2.Key × V) => ∃ b, q = (.ref b, kv.2) ∧ H2 b = some (.tup (kv.1.map kV))) ps kvs ∧ kvs.length ≤ 15 ∧ Q (.ref p) (upd H2 p (.dT (allK kvs)))
theorem carriesT {X : Cx} {pins : List (Addr × Obj)} {σ : L2.St} {H : Hp} {s : Shared} (I : Inv X pins σ H s) : ∀ {ps : List (V × V)} {kvs : List (List L2.Key × V)} {ws : List (Value × Value)}, VV ps ws → Paired (fun (q : V × V) (kv : List L2.Key × V) => ∃ b, q = (.ref b, kv.2) ∧ H b = some (.tup (kv.1.map kV))) ps kvs → ∃ rs, CarriesH (tupleKind (mixKind X.prog X.w)) s.heap ws rs ∧ KT H kvs rs
  | _, _, _, .nil, .nil => ⟨[], True.intro, .nil⟩
  | _, _, _, .cons (a := a) (b := b) r1 r2, .cons (b := kv) ⟨q, e, hq⟩ t => by
    obtain ⟨rs, c, k⟩ := carriesT I r2 t
    subst e
    obtain ⟨b1, b2⟩ := b
    obtain ⟨z1, z2⟩ := r1
    cases (show b1 = Value.ref q from z1)
    exact ⟨(kv.1, q, b2) :: rs, ⟨rfl, rfl, key_of I.hok hq, c⟩, .cons ⟨rfl, hq, z2⟩ k⟩
theorem pe_dispT {X : Cx} {pos : Pos} {keys : List (Option Expr)} {values : List Expr} {trs : List (TE × TE)} (hu : X.A.units + 1 < cLine) (h : PPs X pos keys values trs) (hall : keys.all (·.isSome) = true) (hl : keys.length = values.length) (h0 : keys ≠ [])
    (h15 : keys.length ≤ 15) : PE X (.Dict keys values pos) (tDispT trs) := by
  refine ⟨fun pins s σ H Q I q => ?_⟩
  have hn := I.hok.fresh (Nat.le_refl s.heap.objs.size)
  have I1 := I.laid (a := s.heap.objs.size) (o := .dT []) (h' := s.heap.push { cls := .type "dict", data := .dict #[] }) (t' := s.toks) (fun _ _ q => Heap.get?_push_of_some _ q) (Nat.le_refl _) (dt_empty s.heap I.big)
  have pl := pairTrees_length keys values X.env pos hall hl
  refine dict_pairsHA (knd := tupleKind (mixKind X.prog X.w)) (pairs := pairTrees keys values X.env pos) (show X.A.units < cLine by omega) (zip_pairTrees keys values X.env pos hall hl) (fun he => by
    rw [he] at pl
    exact h0 (List.length_eq_zero_iff.mp pl.symm)) (by rw [pl]; exact h15) (thn (h.run pins _ σ _ _ I1 (q _ hn)) fun ws s2 ⟨ps, H2, I2, rel, e, kvs, hp, lk, q2⟩ => ?_)
  obtain ⟨rs, c, rk⟩ := carriesT I2 rel hp
  obtain ⟨z, hd, vs0, r0, dd⟩ := dt_of I2.hok e
  cases r0
  refine ⟨rs, c, dd, fun h' tk dd' hs => ⟨.ref s.heap.objs.size, _, ?_, rfl, q2⟩⟩
  have hz := allK_len kvs []
  have he : ∃ q, h'.get? s.heap.objs.size = some q := let ⟨q, _, _, hq, _⟩ := dd'; ⟨q, hq⟩
  have h1 := kt_all kvs rs [] [] rk .nil
  obtain ⟨o, es, ep, z1, z2, z3, z4, _, z5⟩ := dd'
  exact d_write I2 (by rw [e]; exact True.intro) hs he (ob := .dT (allK kvs)) ⟨by
    show (allK kvs).length ≤ sizeLine
    unfold allK
    rw [sizeLine_eq]
    rw [List.length_nil] at hz
    omega, hd, _, KT.keeps h1 fun b ys eb => by rw [upd_ne (fun z => by rw [z, e] at eb; cases eb)]; exact eb, o, es, ep, z1, z2, z3, z4, z5⟩
/-! ### short words -/
section
variable {σ : L2.St} {H : Hp} {Q : VK} {td ty tx tv : TE} {a b : Addr} {kvs : List (List L2.Key × V)} {k : List L2.Key} {v : V} {y : V}
theorem L_isdT {R : Addr → Prop} (h : H a = some (.dT kvs)) (q : R a) : ∃ a', V.ref a = .ref a' ∧ IsD H a' ∧ R a' := ⟨a, rfl, .inr ⟨kvs, .inl h⟩, q⟩
theorem L_dgT {R : Option V → Prop} (h : H a = some (.dT kvs)) (hb : H b = some (.tup (k.map kV))) (q : R (valV kvs k)) : ∃ o, DGet H a (.ref b) o ∧ R o := ⟨_, DGet.t h hb, q⟩
theorem L_isdK {R : Addr → Prop} {kvs : List (L2.Key × V)} (h : H a = some (.dK kvs)) (q : R a) : ∃ a', V.ref a = .ref a' ∧ IsD H a' ∧ R a' := ⟨a, rfl, .inl ⟨kvs, .inl h⟩, q⟩
theorem L_dgK {R : Option V → Prop} {kvs : List (L2.Key × V)} {k : L2.Key} (e : y = kV k) (h : H a = some (.dK kvs)) (q : R (valV kvs k)) : ∃ o, DGet H a y o ∧ R o := ⟨_, by rw [e]; exact DGet.k h, q⟩
theorem L_dputT {R : Hp → Prop} (h : H a = some (.dT kvs)) (hb : H b = some (.tup (k.map kV))) (hl : kvs.length < 1000000) (q : R (upd H a (.dT (putK kvs k v)))) : ∃ a' H4, V.ref a = .ref a' ∧ DPut H a' (.ref b) v H4 ∧ R H4 := ⟨a, _, rfl, DPut.t h hb (sz_lt hl), q⟩
theorem L_dictT {us : List V} (h : H a = some (.lst us)) (hp : Paired (PairK H) us kvs) (q : ∀ d, H d = none → Q (.ref d) (upd H d (.dT (allK kvs)))) : rDictT [.ref a] H Q := ⟨a, us, kvs, rfl, h, hp, q⟩
end
theorem L_dispT1 {σ : L2.St} {H : Hp} {Q : VK} {tk tv : TE} (h : ∀ p, H p = none → tk σ (upd H p (.dT [])) fun x H1 => tv σ H1 fun y H2 => H2 p = some (.dT []) ∧ ∃ kvs : List (List L2.Key × V), Paired (fun (q : V × V) (kv : List L2.Key × V) => ∃ b, q = (.ref b, kv.2) ∧ H2 b = some (.tup (kv.1.map kV))) [(x, y)] kvs ∧ kvs.length ≤ 15 ∧ Q (.ref p) (upd H2 p (.dT (allK kvs)))) : tDispT [(tk, tv)] σ H Q := h
theorem allK_nd {kvs : List (List L2.Key × V)} (h : (kvs.map (·.1)).Nodup) : allK kvs = kvs := by
  have key : ∀ (kvs acc : List (List L2.Key × V)), ((acc ++ kvs).map (·.1)).Nodup → kvs.foldl (fun acc p => putK acc p.1 p.2) acc = acc ++ kvs := by
    intro kvs
    induction kvs with
    | nil => intro acc _; rw [List.append_nil]; rfl
    | cons p kvs ih =>
      intro acc n
      rw [List.foldl_cons]
      have e : putK acc p.1 p.2 = acc ++ [p] := by
        unfold putK
        rw [if_neg]
        intro z
        rw [List.any_eq_true] at z
        obtain ⟨q, hq, e⟩ := z
        rw [List.map_append, List.map_cons, List.nodup_append] at n
        exact n.2.2 q.1 (List.mem_map_of_mem hq) p.1 List.mem_cons_self (of_decide_eq_true e)
      rw [e, ih (acc ++ [p]) (by rw [List.append_assoc]; exact n), List.append_assoc]
      rfl
  exact key kvs [] h
theorem PairK.same {H H' : Hp} {u : V} {p : List L2.Key × V} (h : PairK H u p) (s : Same H H') : PairK H' u p := by
  obtain ⟨T, q, e, h1, h2⟩ := h
  exact ⟨T, q, e, s _ _ h1, s _ _ h2⟩
theorem PairK.mu {H : Hp} {u : V} {p : List L2.Key × V} {D : Addr} {us : List V} {o : HO} (h : PairK H u p) (e : H D = some (.lst us)) : PairK (upd H D o) u p := by
  obtain ⟨T, q, e1, h1, h2⟩ := h
  exact ⟨T, q, e1, by rw [upd_ne fun z => by rw [z, e] at h1; cases h1]; exact h1, by rw [upd_ne fun z => by rw [z, e] at h2; cases h2]; exact h2⟩
theorem L_disp2 {σ : L2.St} {H : Hp} {Q : VK} {ta tb tc td : TE} (h : ∀ p, H p = none → ta σ (upd H p (.dK [])) fun k H1 => tb σ H1 fun v H2 => tc σ H2 fun k2 H3 => td σ H3 fun v2 H4 => H4 p = some (.dK []) ∧ ∃ kvs : List (L2.Key × V), [(k, v), (k2, v2)] = kvs.map (fun kv => (kV kv.1, kv.2)) ∧ kvs.length ≤ 15 ∧ Q (.ref p) (upd H4 p (.dK (mergeK [] kvs)))) : tDisp [(ta, tb), (tc, td)] σ H Q := h
end Kt

set_option Elab.async false
set_option linter.all false
set_option maxRecDepth 100000
set_option maxHeartbeats 4000000
/-! SrtT: sorted(d) of a dict with tuple keys -/
namespace Kt
open PySem PySem.Spec PyProof.Rows L2
/-- how one tuple stands to another: by the first place in which they differ, of whole numbers there -/
inductive LtR : List L2.Key → List L2.Key → Bool → Prop
  | nn : LtR [] [] false
  | nc (b : L2.Key) (bs : List L2.Key) : LtR [] (b :: bs) true
  | cn (a : L2.Key) (as : List L2.Key) : LtR (a :: as) [] false
  | eq (a : L2.Key) {as bs : List L2.Key} {r : Bool} : LtR as bs r → LtR (a :: as) (a :: bs) r
  | lt {i j : Int} (as bs : List L2.Key) : i ≠ j → LtR (Sum.inl i :: as) (Sum.inl j :: bs) (decide (i < j))
theorem LtR.self : ∀ ks : List L2.Key, LtR ks ks false
  | [] => .nn
  | a :: as => .eq a (LtR.self as)
section
variable {prog : Program} {w : World} {A : Around} {E : Value → Shared → Prop} {s : Shared}
theorem katlex {b fin : Bool} {Q : Bool → Shared → Prop} {ks ms : List L2.Key} {r : Bool} (h : LtR ks ms r) : ∀ {us vs : List Value} (i : Nat), ItemsAre (mixKind prog w) ks us → ItemsAre (mixKind prog w) ms vs → fin = decide (ks.length < ms.length) → Q r s →
    PySem.W.KatLex prog w A b fin Q (us.zip vs) i s := by
  induction h with
  | nn =>
    intro us vs i hu hv hf q
    cases hu
    cases hv
    refine PySem.W.kat_nil ?_
    rw [hf]
    exact q
  | nc b bs =>
    intro us vs i hu hv hf q
    cases hu
    cases hv
    refine PySem.W.kat_nil ?_
    rw [hf]
    rw [decide_eq_true (by simp)]
    exact q
  | cn a as =>
    intro us vs i hu hv hf q
    cases hu
    cases hv
    refine PySem.W.kat_nil ?_
    rw [hf]
    rw [decide_eq_false (by simp)]
    exact q
  | eq a hr ih =>
    intro us vs i hu hv hf q
    cases hu with | cons h1 t1 =>
    cases hv with | cons h2 t2 =>
    refine PySem.W.kat_cons ((mixKind prog w).eqBool h1 h2 ?_)
    rw [decide_eq_true rfl]
    refine PySem.W.kat_yes (ih (i + 1) t1 t2 ?_ q)
    rw [hf]
    simp
  | lt as bs hne =>
    intro us vs i hu hv hf q
    cases hu with | cons h1 t1 =>
    cases hv with | cons h2 t2 =>
    refine PySem.W.kat_cons ((mixKind prog w).eqBool h1 h2 ?_)
    rw [decide_eq_false (fun z => hne (Sum.inl.inj z))]
    refine PySem.W.kat_no ?_
    rcases keyIs_shape ((mixKind_is prog w _ _).symm.trans h1) with ⟨x, t, e1, e2⟩ | ⟨x, t, e1, e2⟩
    · rcases keyIs_shape ((mixKind_is prog w _ _).symm.trans h2) with ⟨y, u, e3, e4⟩ | ⟨y, u, e3, e4⟩
      · cases e1
        cases e3
        rw [e2, e4]
        exact TS.oneLt_ints _ q
      · cases e3
    · cases e1
/-- keys that begin with a whole number -/
def IntFirst (k : List L2.Key) : Prop := ∃ i r, k = Sum.inl i :: r
theorem firstsK {h : Heap} {k : Value → List L2.Key} : ∀ {vs : List Value}, (∀ v ∈ vs, ∃ a, v = .ref a ∧ IsTupleKey (mixKind prog w) h (k v) a ∧ IntFirst (k v)) →
    ∃ fs : List Value, PySem.W.KatTups h vs fs ∧ fs.length = vs.length ∧ ∀ f ∈ fs, ∃ x t, f = Value.int x t
  | [], _ => ⟨[], PySem.W.KatTups.nil, rfl, fun f hf => by simp at hf⟩
  | v :: vs, x => by
    obtain ⟨fs, kt, hl, hi⟩ := firstsK (vs := vs) fun u hu => x u (List.mem_cons_of_mem _ hu)
    obtain ⟨a, rfl, ⟨o, items, n, ho, hc, hd, his⟩, i, r, ek⟩ := x v (List.mem_cons_self ..)
    rw [ek] at his
    obtain ⟨us, eus⟩ : ∃ us, items.toList = us := ⟨_, rfl⟩
    rw [eus] at his
    cases his with | cons h1 t1 =>
    rcases keyIs_shape ((mixKind_is prog w _ _).symm.trans h1) with ⟨z, t, e1, e2⟩ | ⟨z, t, e1, e2⟩
    · subst e2
      rename_i us1
      have e0 : items[0]? = some (Value.int z t) := by
        rw [← Array.getElem?_toList, eus]
        rfl
      refine ⟨.int z t :: fs, PySem.W.KatTups.cons ho hc hd e0 kt, by rw [List.length_cons, List.length_cons, hl], fun f hf => ?_⟩
      rcases List.mem_cons.mp hf with rfl | hf
      · exact ⟨z, t, rfl⟩
      · exact hi f hf
    · cases e1
theorem keys_cmp {vs : List Value} {k : Value → List L2.Key} {lt : List L2.Key → List L2.Key → Bool} (b : Bool) (hp : ∀ v ∈ vs, ∃ a, v = .ref a ∧ IsTupleKey (mixKind prog w) s.heap (k v) a)
    (hr : ∀ v ∈ vs, ∀ u ∈ vs, LtR (k v) (k u) (lt (k v) (k u))) : SrtO.Cmp prog w A s (tuples' b) (fun p => p.1 ∈ vs) (SrtO.lt2 fun v u => lt (k v) (k u)) := by
  intro p q hm hm'
  have h1 := hp _ hm
  have h2 := hp _ hm'
  have h3 := hr _ hm _ hm'
  show wpAny (model prog w) A (keyLt' (tuples' b) p.1 q.1) (fun r s' => s' = s ∧ r = lt (k p.1) (k q.1)) (fun _ _ => False) s
  obtain ⟨a, e, o, its, n, ho, hc, hd, hi⟩ := h1
  obtain ⟨a', e', o', its', n', ho', hc', hd', hi'⟩ := h2
  generalize k p.1 = K1 at *
  generalize k q.1 = K2 at *
  rw [e, e']
  refine PySem.W.kat_lt ho hd ho' hd' (katlex h3 0 hi hi' ?_ ⟨rfl, rfl⟩)
  have l1 := hi.length
  have l2 := hi'.length
  rw [← Array.length_toList, ← Array.length_toList, ← l1, ← l2]
theorem keys_sortable {a : Addr} {vs : List Value} {k : Value → List L2.Key} {lt : List L2.Key → List L2.Key → Bool} (h0 : 0 < vs.length) (hp : ∀ v ∈ vs, ∃ a, v = .ref a ∧ IsTupleKey (mixKind prog w) s.heap (k v) a ∧ IntFirst (k v))
    (hr : ∀ v ∈ vs, ∀ u ∈ vs, LtR (k v) (k u) (lt (k v) (k u))) (ha : ∀ o, s.heap.get? a = some o → o.cls ≠ .type "tuple") : SrtO.SortableO prog w A s a vs fun v u => lt (k v) (k u) := by
  intro h' keep
  have hp' : ∀ v ∈ vs, ∃ a, v = .ref a ∧ IsTupleKey (mixKind prog w) h' (k v) a ∧ IntFirst (k v) := fun v hm => by
    obtain ⟨b, e, ⟨o, its, n, ho, hc, hd, hi⟩, f⟩ := hp v hm
    exact ⟨b, e, ⟨o, its, n, keep b o (fun z => by subst z; exact ha o ho hc) ho, hc, hd, hi⟩, f⟩
  obtain ⟨fs, h1, h2, h3⟩ := firstsK hp'
  refine ⟨tuples' true, fun Q E hq => ?_, keys_cmp true (fun v hv => ?_) hr⟩
  · refine PySem.W.kat_kind (T := .type "int") h1 (by omega) (fun f hm => ?_) (by rfl) ?_
    · obtain ⟨x, t, rfl⟩ := h3 f hm
      exact PySem.W.Looks.now
    · have e : (Value.type "int" != Value.type "tuple") = true := by first | decide +kernel | rfl | decide
      rw [e]
      exact hq
  · obtain ⟨b, e, h, _⟩ := hp' v hv
    exact ⟨b, e, h⟩
end
def unKV : V → L2.Key
  | .int i => Sum.inl i
  | .str x => Sum.inr x
  | _ => Sum.inl 0
theorem unKV_k (k : L2.Key) : unKV (kV k) = k := by cases k <;> rfl
/-- the keys of the tuple that a reference shows -/
def kAt (H : Hp) : Value → List L2.Key
  | .ref q => (match H q with
    | some (.tup vs) => vs.map unKV
    | _ => [])
  | _ => []
theorem kAt_of {H : Hp} {q : Addr} {k : List L2.Key} (e : H q = some (.tup (k.map kV))) : kAt H (.ref q) = k := by
  show (match H q with
    | some (.tup vs) => vs.map unKV
    | _ => []) = k
  rw [e]
  show (k.map kV).map unKV = k
  rw [List.map_map]
  have : (unKV ∘ kV) = id := funext fun k => unKV_k k
  rw [this, List.map_id]
def aOf : Value → Addr
  | .ref q => q
  | _ => 0
theorem swo_of {α β : Type} {lt : β → β → Bool} (O : SrtO.Swo lt) (f : α → β) : SrtO.Swo fun x y => lt (f x) (f y) := ⟨fun x y => O.asym (f x) (f y), fun x y z => O.tr (f x) (f y) (f z)⟩
def rSortDT (lt : List L2.Key → List L2.Key → Bool) : List V → Hp → VK → Prop := fun vs H Q => ∃ (a : Addr) (kvs : List (List L2.Key × V)), vs = [V.ref a] ∧ H a = some (.dT kvs) ∧ (∀ k ∈ kvs.map (·.1), IntFirst k) ∧ (∀ k ∈ kvs.map (·.1), ∀ k' ∈ kvs.map (·.1), LtR k k' (lt k k')) ∧
  ∀ (L : List (Addr × List L2.Key)) (p : Addr), (L.map (·.2)).Perm (kvs.map (·.1)) → SrtO.Srtd lt (L.map (·.2)) → (∀ x ∈ L, H x.1 = some (.tup (x.2.map kV))) → H p = none → Q (.ref p) (upd H p (.lst (L.map fun x => V.ref x.1)))
theorem cr_sortedDT {X : Cx} {lt : List L2.Key → List L2.Key → Bool} (calm : X.calm = true) (O : SrtO.Swo lt) : CallR X (.builtin "sorted") (rSortDT lt) := by
  intro pins s σ H vs us Q I r h
  obtain ⟨a, kvs, rfl, ha, hif, hlt, q⟩ := h
  rw [Vals.ref1 r]
  obtain ⟨z, lo, xs, rel, dh⟩ := dt_of I.hok ha
  obtain ⟨es, ep, raw, hsz, hes⟩ := dh.raw
  have hlen : kvs.length = xs.length := Paired.length rel
  have h16 : es.size ≤ sizeLine := by omega
  refine Calls.call_function_entry PyProof.Rows.kind_sorted PyProof.Rows.plain_sorted PyProof.Rows.entry_sorted (PyProof.Rows.args_sorted1 _) ?_
  unfold Builtin.«sorted»
  refine wpAny_bind (m := checkCount "sorted" 1 1 _) (wpAny_pure ?_)
  refine wpAny_bind (PySem.W.kdu_collect (A := X.A.in1) (KdlSrc.rawDict (es := es) (ep := ep) lo) (I.ok.hd calm) raw h16 fun h' tk acc hk hacc => ?_)
  have hal : acc.toList.length = kvs.length := by rw [Array.length_toList, hacc.1]; omega
  -- what was met: the keys' own tuples
  have hat : ∀ (j : Nat) (v : Value), acc.toList[j]? = some v → ∃ (qa : Addr) (k : List L2.Key), v = .ref qa ∧ H qa = some (.tup (k.map kV)) ∧ (kvs.map (·.1))[j]? = some k := fun j v e => by
    rw [Array.getElem?_toList] at e
    obtain ⟨hj, ev⟩ := hacc.2 j v e
    obtain ⟨y, hy, ek, _, _⟩ := hes j hj
    obtain ⟨p, hp, e1, e2, _⟩ := DX.pget rel hy
    refine ⟨y.2.1, p.1, ev.trans ek, e2, ?_⟩
    rw [List.getElem?_map, hp]
    rfl
  have hmap : acc.toList.map (kAt H) = kvs.map (·.1) := by
    refine List.ext_getElem? fun j => ?_
    rw [List.getElem?_map]
    cases e : acc.toList[j]? with
    | none =>
      have := List.getElem?_eq_none_iff.mp e
      rw [List.getElem?_eq_none (by rw [List.length_map]; omega)]
      rfl
    | some v =>
      obtain ⟨qa, k, rfl, e2, e3⟩ := hat j v e
      rw [e3, Option.map_some, kAt_of e2]
  have hmem : ∀ v ∈ acc.toList, ∃ (qa : Addr) (k : List L2.Key), v = .ref qa ∧ H qa = some (.tup (k.map kV)) ∧ k ∈ kvs.map (·.1) := fun v hv => by
    obtain ⟨j, hj⟩ := List.mem_iff_getElem?.mp hv
    obtain ⟨qa, k, e1, e2, e3⟩ := hat j v hj
    exact ⟨qa, k, e1, e2, List.mem_of_getElem? e3⟩
  have I1 : Inv X pins σ H { s with heap := h', toks := tk } := I.kept hk
  refine wpAny_bind (wpAny_newList ?_ (by rw [hal]; exact z))
  have hoL : (h'.push (seqObj "list" acc.toList.toArray 0)).get? h'.objs.size = some (seqObj "list" acc.toList.toArray 0) := Heap.get?_push_size _ rfl
  show wpAny _ _ _ _ _ { s with heap := h'.push (seqObj "list" acc.toList.toArray 0), toks := tk }
  have hkey : ∀ v ∈ acc.toList, ∃ b, v = .ref b ∧ IsTupleKey (mixKind X.prog X.w) (h'.push (seqObj "list" acc.toList.toArray 0)) (kAt H v) b ∧ IntFirst (kAt H v) := fun v hv => by
    obtain ⟨qa, k, rfl, e2, e3⟩ := hmem v hv
    refine ⟨qa, rfl, ?_, ?_⟩
    · rw [kAt_of e2]
      obtain ⟨o, its, n, ho, hc, hd, hi⟩ := key_of I1.hok e2
      exact ⟨o, its, n, Heap.get?_push_of_some _ ho, hc, hd, hi⟩
    · rw [kAt_of e2]
      exact hif k e3
  refine wpAny_bind (wpAny_holding (wpAny_call_entry PyProof.Rows.slot_list_sort ⟨_, hoL, rfl⟩ PyProof.Rows.entry_list_sort
    (SrtO.list_sort_ord (s := { s with heap := h'.push (seqObj "list" acc.toList.toArray 0), toks := tk }) (ltv := fun v u => lt (kAt H v) (kAt H u)) (swo_of O (kAt H)) hoL (by rw [hal]; exact z)
      (fun h2 => keys_sortable (by omega) hkey (fun v hv u hu => ?_) fun o e => ?_) fun out g1 g2 => ⟨_, rfl, ?_⟩) (PyProof.Rows.args_list_sort _)))
  · obtain ⟨qa, k, rfl, e2, e3⟩ := hmem v hv
    obtain ⟨qb, k', rfl, e4, e5⟩ := hmem u hu
    rw [kAt_of e2, kAt_of e4]
    exact hlt k e3 k' e5
  · have e' : some o = some (seqObj "list" acc.toList.toArray 0) := e.symm.trans hoL
    cases e'
    intro c
    exact absurd (Value.type.inj c) (by decide)
  · obtain ⟨c, hc⟩ := PyProof.Rows.sortedHeap_at (vs := acc.toList) (out := out.toArray) hoL
    have hout : ∀ v ∈ out, ∃ (qa : Addr) (k : List L2.Key), v = .ref qa ∧ H qa = some (.tup (k.map kV)) ∧ k ∈ kvs.map (·.1) := fun v hv => hmem v (g2.perm.mem_iff.mp hv)
    have hperm : ((out.map fun v => (aOf v, kAt H v)).map (·.2)).Perm (kvs.map (·.1)) := by
      rw [List.map_map, ← hmap]
      exact g2.perm.map (kAt H)
    have hrefs : (out.map fun v => (aOf v, kAt H v)).map (fun x => V.ref x.1) = out.map fun v => V.ref (aOf v) := by
      rw [List.map_map]
      rfl
    have hvals : Vals (out.map fun v => V.ref (aOf v)) out := by
      have : ∀ (l : List Value), (∀ v ∈ l, ∃ qa, v = Value.ref qa) → Vals (l.map fun v => V.ref (aOf v)) l := by
        intro l
        induction l with
        | nil => exact fun _ => .nil
        | cons v l ih =>
          intro h
          obtain ⟨qa, e⟩ := h v List.mem_cons_self
          subst e
          exact .cons rfl (ih fun u hu => h u (List.mem_cons_of_mem _ hu))
      exact this out fun v hv => let ⟨qa, _, e, _⟩ := hout v hv; ⟨qa, e⟩
    have hol : out.length = kvs.length := by rw [← hal]; exact g2.len
    refine wpAny_pure ⟨_, rfl, .ref h'.objs.size, upd H h'.objs.size (.lst (out.map fun v => V.ref (aOf v))), I1.laid (t' := tk) (fun b u e => ?_) (Nat.le_refl _)
      (show ObjOk X.prog X.w _ _ _ (.lst (out.map fun v => V.ref (aOf v))) from ⟨by rw [List.length_map, hol]; exact z, out, c, hvals, hc⟩), rfl, ?_⟩
    · have hb : b < h'.objs.size := Heap.lt_size e
      rw [PyProof.Rows.sortedHeap_old (Nat.ne_of_lt hb) (by rw [size_push']; exact Nat.lt_succ_of_lt hb)]
      exact Heap.get?_push_of_some _ e
    · rw [← hrefs]
      refine q _ _ hperm ?_ (fun x hx => ?_) (I1.hok.fresh (Nat.le_refl _))
      · rw [List.map_map]
        exact SrtO.srtd_map g1
      · obtain ⟨v, hv, e⟩ := List.mem_map.mp hx
        obtain ⟨qa, k, rfl, e2, _⟩ := hout v hv
        rw [← e]
        show H qa = some (.tup ((kAt H (.ref qa)).map kV))
        rw [kAt_of e2]
        exact e2
/-! ### the order by two whole numbers -/
def two : List L2.Key → Int × Int
  | Sum.inl i :: Sum.inl j :: _ => (i, j)
  | _ => (0, 0)
def ltTwo (k k' : List L2.Key) : Bool := SrtO.lexB (two k) (two k')
theorem swo_two : SrtO.Swo ltTwo := by
  refine ⟨fun x y h => ?_, fun x y z h1 h2 => ?_⟩
  · have a := SrtO.lexB_iff.mp h
    refine SrtO.lexB_no.mpr ?_
    omega
  · have a := SrtO.lexB_no.mp h1
    have b := SrtO.lexB_no.mp h2
    refine SrtO.lexB_no.mpr ?_
    omega
theorem ltR_two {i j i' j' : Int} {r r' : List L2.Key} (h : i = i' → j = j' → r = r') : LtR (Sum.inl i :: Sum.inl j :: r) (Sum.inl i' :: Sum.inl j' :: r') (ltTwo (Sum.inl i :: Sum.inl j :: r) (Sum.inl i' :: Sum.inl j' :: r')) := by
  show LtR _ _ (SrtO.lexB (i, j) (i', j'))
  unfold SrtO.lexB
  by_cases e : i = i'
  · subst e
    rw [if_pos rfl]
    refine .eq _ ?_
    by_cases e2 : j = j'
    · subst e2
      rw [h rfl rfl]
      rw [show decide (((i, j) : Int × Int).2 < ((i, j) : Int × Int).2) = false from decide_eq_false (Int.lt_irrefl _)]
      exact LtR.self _
    · exact .lt _ _ e2
  · rw [if_neg e]
    exact .lt _ _ e
end Kt
set_option Elab.async false
set_option linter.all false
set_option maxRecDepth 100000
set_option maxHeartbeats 4000000
namespace My
open PySem PySem.Spec PyProof.Rows L2 Kt
/-! one step of a reading; a look at the heap -/
local macro_rules | `(tactic| walk_at "hp") => `(tactic| first
  | assumption
  | exact upd_same
  | (with_reducible apply hp_from; assumption; walk_at "sm"))
local macro_rules | `(tactic| walk_at "hpL") => `(tactic| first | assumption | (with_reducible apply hpL; walk_at "hp"))
local macro_rules | `(tactic| walk_at "hpT") => `(tactic| first | assumption | (with_reducible apply hpT; walk_at "hp"))
local macro_rules | `(tactic| walk_at "st1") => `(tactic| with_reducible first
  | refine L_var rfl ?_
  | refine L_cons ?_
  | refine L_nil ?_
  | refine L_c ?_
  | refine L_op ?_
  | refine L_seq ?_
  | refine L_asg ?_
  | (refine G_gn ?_; refine L_gnameE (by dsimp only [L2.wipe, List.foldl, List.set] <;> rfl) ?_)
  | refine L_k ?_
  | refine L_I0 ?_
  | refine L_addI ?_
  | refine L_tTest ?_
  | refine L_ifS ?_
  | refine L_next ?_
  | refine L_call ?_
  | refine L_callS ?_
  | refine L_T ?_
  | refine L_F ?_
  | refine L_nT ?_
  | refine L_nF ?_
  | refine L_cb ?_
  | refine L_ret ?_
  | refine L_eqI ?_
  | refine L_neI ?_
  | refine L_leI ?_
  | refine L_ltI ?_
  | refine L_or ?_
  | refine L_and ?_
  | refine L_not ?_
  | refine L_tB ?_
  | refine L_drop ?_
  | refine L_bm ?_
  | refine L_tup ?_
  | refine L_lst ?_
  | refine L_fld ?_
  | refine L_chain ?_
  | refine L_chain3 ?_
  | refine L_gname ?_
  | refine L_eqS ?_
  | refine L_neS ?_
  | refine L_eqB ?_
  | refine L_leS ?_
  | refine L_isN ?_
  | refine L_notN ?_
  | refine L_inC ?_
  | refine L_notInC ?_
  | refine L_un ?_
  | refine L_rU ?_
  | refine L_andV ?_
  | refine L_orV ?_
  | refine L_notV ?_
  | refine L_par ?_
  | refine L_par3 ?_
  | refine L_vs2 ?_
  | refine L_vs3 ?_
  | refine L_aug rfl ?_
  | refine L_augS ?_
  | refine L_ipI ?_
  | refine L_retN ?_
  | refine L_brk ?_
  | refine L_cont ?_
  | refine L_tru ?_
  | refine L_truB ?_
  | refine L_truI ?_
  | refine L_abs ?_
  | refine L_max2 ?_
  | refine L_min2 ?_
  | refine L_int1 ?_
  | refine L_int1B ?_
  | refine L_for ?_
  | refine L_iRng1 ?_
  | refine L_iRng2 ?_
  | refine L_iList ?_
  | refine L_iTup ?_
  | refine L_yes ?_
  | refine L_iZip ?_
  | refine L_iEnum ?_
  | refine L_iStr ?_
  | refine L_iRng3 ?_
  | refine L_lc ?_
  | refine L_make ?_
  | refine L_nnT ?_
  | refine L_nnF ?_
  | refine L_disp1 ?_
  | refine L_rng2 ?_
  | refine L_bm0 ?_
  | refine L_neB ?_
  | refine L_dnew ?_
  | refine L_sl ?_
  | refine L_noPart ?_
  | refine L_part ?_
  | refine L_ki ?_
  | refine L_methE ?_
  | refine L_meth ?_
  | refine L_makeE ?_
  | refine L_gCons ?_
  | refine L_gNil ?_
  | refine L_sub ?_
  | refine L_sFld ?_
  | refine L_din ?_
  | refine L_dnin ?_
  | refine L_dget ?_
  | refine L_dput ?_
  | refine L_dget2 ?_
  | refine L_methD ?_
  | refine L_lock ?_
  | refine L_iKeys ?_)
local macro_rules | `(tactic| walk_at "st") => `(tactic| first | walk_at "st1" | walk_at "op" | with_reducible refine L_ifE ?_)
local macro_rules | `(tactic| walk_at "stn") => `(tactic| repeat first | walk_at "st1" | walk_at "op")
local macro_rules | `(tactic| walk_at "sts") => `(tactic| repeat walk_at "st")
/-! the same, and what is shown by itself: sizes, bounds, what stands in the heap -/
local macro_rules | `(tactic| walk_at "bd") => `(tactic| first | exact bd_mod (by decide) | exact bd_64 (by decide) | exact bd_64 (by omega))
local macro_rules | `(tactic| walk_at "sa1") => `(tactic| first
  | walk_at "st"
  | (with_reducible refine G_mod ?_; with_reducible refine L_I (show _ < _ by first | decide | omega) ?_)
  | (with_reducible refine G_mul ?_; with_reducible refine L_mulI (Bd.cmul (n := 64) (m := 64) (by walk_at "bd") (by walk_at "bd")) ?_)
  | (with_reducible refine G_div ?_; with_reducible refine L_I (cdiv_lit (by first | decide | omega)) ?_)
  | (with_reducible refine G_pow ?_; with_reducible first
    | refine L_powE (i := 10) (j := 9) (n := 1000000000) (cpow_lit (by decide)) (by decide) ?_
    | refine L_powE (i := 10) (j := 6) (n := 1000000) (cpow_lit (by decide)) (by decide) ?_
    | refine L_powE (i := 10) (j := 10) (n := 10000000000) (cpow_lit (by decide)) (by decide) ?_
    | refine L_powE (i := 10) (j := 12) (n := 1000000000000) (cpow_lit (by decide)) (by decide) ?_
    | refine L_powE (i := 10) (j := 13) (n := 10000000000000) (cpow_lit (by decide)) (by decide) ?_
    | refine L_powE (i := 10) (j := 20) (n := 100000000000000000000) (cpow_lit (by decide)) (by decide) ?_
    | refine L_powE (i := 10) (j := 29) (n := 100000000000000000000000000000) (cpow_lit (by decide)) (by decide) ?_
    | refine L_powE (i := 10) (j := 30) (n := 1000000000000000000000000000000) (cpow_lit (by decide)) (by decide) ?_
    | refine L_powE (i := 10) (j := 39) (n := 1000000000000000000000000000000000000000) (cpow_lit (by decide)) (by decide) ?_
    | refine L_powE (i := 10) (j := 40) (n := 10000000000000000000000000000000000000000) (cpow_lit (by decide)) (by decide) ?_
    | refine L_powE (i := 10) (j := 60) (n := 1000000000000000000000000000000000000000000000000000000000000) (cpow_lit (by decide)) (by decide) ?_
    | refine L_powE (i := 2) (j := 3) (n := 8) (cpow_lit (by decide)) (by decide) ?_
    | refine L_powE (i := 2) (j := 40) (n := 1099511627776) (cpow_lit (by decide)) (by decide) ?_)
  | (with_reducible refine G_ix ?_; with_reducible first | refine L_ixT (by walk_at "hpT") (by with_unfolding_all rfl) ?_ | refine L_ixL (by walk_at "hpL") (by with_unfolding_all rfl) ?_)
  | (with_reducible refine G_len ?_; with_reducible first | refine L_lenL (by walk_at "hpL") ?_ | refine L_lenT (by walk_at "hpT") ?_)
  | walk_at "fd"
  | (with_reducible refine G_meth ?_; with_reducible refine L_methv (by walk_at "hp") (by with_unfolding_all rfl) ?_)
  | (with_reducible refine G_isi ?_; with_reducible first | refine L_isi (.base (.int _)) (b := true) (by decide +kernel) ?_ | refine L_isi (.base (.int _)) (b := false) (by decide +kernel) ?_)
  | (with_reducible refine G_d ?_; with_reducible first | refine L_dT (by first | assumption | omega) ?_ | refine L_dF (by first | assumption | omega) ?_)
  | (with_reducible refine G_nd ?_; with_reducible first | refine L_ndT (by first | assumption | omega) ?_ | refine L_ndF (by first | assumption | omega) ?_))
local macro_rules | `(tactic| walk_at "sa") => `(tactic| repeat walk_at "sa1")
/-! what stood stands -/
local macro_rules | `(tactic| walk_at "sm") => `(tactic| first
  | assumption
  | exact Same.refl _
  | (with_reducible apply same_upd'; assumption; walk_at "sm")
  | (with_reducible apply same_mut'; assumption; walk_at "sm")
  | (with_reducible apply same_via; assumption; walk_at "sm"))
/-! a new list or tuple: its place p, hp : H p = none, the heap behind it Hn, that all stands, what stands at p -/
local macro_rules | `(tactic| walk_at "nw") => `(tactic| (
  (refine L_new (by first | decide | exact sz_dec (by simp)) ?_)
  (intro p hp)
  (generalize hg : upd _ p _ = Hn)
  (have sn := same_newE hg hp)
  (have en := upd_at hg)
  (clear hg)))
/-! plain things as data -/
local macro_rules | `(tactic| walk_at "dpa") => `(tactic| first
  | exact .nil
  | (refine .cons (by first | exact .int _ | exact .str _ | exact .bl _ | exact .non | assumption) ?_; walk_at "dpa"))
local macro_rules | `(tactic| walk_at "nwp") => `(tactic| (
  (intro p hp)
  (generalize hg : upd _ p _ = Hn)
  (have sn := same_newE hg hp)
  (have en := upd_at hg)
  (clear hg)))

def top (i : Nat) : Stmt := PySem.Challenge.pw_fewspeak_k83_whole_endings_counted.main.body.getD i (.Pass ⟨0, 0, 0, 0⟩)
abbrev s__law_cell : Stmt := top 17
abbrev s__law_mixed : Stmt := top 18
abbrev s_is_whole : Stmt := top 8
abbrev s_is_row : Stmt := top 11
abbrev s_NoTable___init__ : Stmt := inClass (top 2) 0
abbrev s_need_rows : Stmt := top 12
abbrev s_Looks___init__ : Stmt := inClass (top 15) 0
abbrev s_Looks_word_at : Stmt := inClass (top 15) 1
abbrev s_Looks_need_lot : Stmt := inClass (top 15) 3
abbrev s_sets_of : Stmt := top 14
abbrev s_Looks_endings : Stmt := inClass (top 15) 4
abbrev s_divisor : Stmt := top 5
abbrev s_share : Stmt := top 6
abbrev s_Looks_let_by : Stmt := inClass (top 15) 5
abbrev s_Looks_looked_at : Stmt := inClass (top 15) 6
abbrev s_are_wares : Stmt := top 13
abbrev s_Looks_judged : Stmt := inClass (top 15) 2
abbrev s__law_rows : Stmt := top 19
abbrev s__law_word : Stmt := top 20
abbrev s__law_lowest : Stmt := top 21
abbrev s__law_end : Stmt := top 22
abbrev s__law_kinds : Stmt := top 23
abbrev s__law_right : Stmt := top 24
abbrev s_law : Stmt := top 25
theorem sc__law_cell : FnScope ["_law_script", "_law_k"] ["_law_script", "_law_k"] (defScope s__law_cell) := ⟨rfl, rfl, rfl, by decide +kernel, rfl, by decide +kernel, by decide +kernel⟩
theorem sc__law_mixed : FnScope ["_law_cell_here", "_law_k", "_law_number"] ["_law_cell_here", "_law_k"] (defScope s__law_mixed) := ⟨rfl, rfl, rfl, by decide +kernel, rfl, by decide +kernel, by decide +kernel⟩
theorem sc_is_whole : FnScope ["thing", "low", "high"] ["thing", "low", "high"] (defScope s_is_whole) := ⟨rfl, rfl, rfl, by decide +kernel, rfl, by decide +kernel, by decide +kernel⟩
theorem sc_is_row : FnScope ["thing"] ["thing"] (defScope s_is_row) := ⟨rfl, rfl, rfl, by decide +kernel, rfl, by decide +kernel, by decide +kernel⟩
theorem sc_NoTable___init__ : FnScope ["self", "row"] ["self", "row"] (defScope s_NoTable___init__) := ⟨rfl, rfl, rfl, by decide +kernel, rfl, by decide +kernel, by decide +kernel⟩
theorem sc_need_rows : FnScope ["rows", "number", "row", "let", "turn"] ["rows"] (defScope s_need_rows) := ⟨rfl, rfl, rfl, by decide +kernel, rfl, by decide +kernel, by decide +kernel⟩
theorem sc_Looks___init__ : FnScope ["self", "rows"] ["self", "rows"] (defScope s_Looks___init__) := ⟨rfl, rfl, rfl, by decide +kernel, rfl, by decide +kernel, by decide +kernel⟩
theorem sc_Looks_word_at : FnScope ["self", "looked", "found", "let", "turn"] ["self", "looked", "found"] (defScope s_Looks_word_at) := ⟨rfl, rfl, rfl, by decide +kernel, rfl, by decide +kernel, by decide +kernel⟩
theorem sc_Looks_need_lot : FnScope ["self", "lot", "bad"] ["self", "lot", "bad"] (defScope s_Looks_need_lot) := ⟨rfl, rfl, rfl, by decide +kernel, rfl, by decide +kernel, by decide +kernel⟩
theorem sc_sets_of : FnScope ["many", "some", "found", "k"] ["many", "some"] (defScope s_sets_of) := ⟨rfl, rfl, rfl, by decide +kernel, rfl, by decide +kernel, by decide +kernel⟩
theorem sc_Looks_endings : FnScope ["self", "lot", "bad", "told", "ways", "looked", "further", "found", "more", "word"] ["self", "lot", "bad"] (defScope s_Looks_endings) := ⟨rfl, rfl, rfl, by decide +kernel, rfl, by decide +kernel, by decide +kernel⟩
theorem sc_divisor : FnScope ["one", "other"] ["one", "other"] (defScope s_divisor) := ⟨rfl, rfl, rfl, by decide +kernel, rfl, by decide +kernel, by decide +kernel⟩
theorem sc_share : FnScope ["top", "bottom", "many"] ["top", "bottom"] (defScope s_share) := ⟨rfl, rfl, rfl, by decide +kernel, rfl, by decide +kernel, by decide +kernel⟩
theorem sc_Looks_let_by : FnScope ["self", "lot", "bad", "many", "looked", "found", "word", "ways"] ["self", "lot", "bad"] (defScope s_Looks_let_by) := ⟨rfl, rfl, rfl, by decide +kernel, rfl, by decide +kernel, by decide +kernel⟩
theorem sc_Looks_looked_at : FnScope ["self", "lot", "bad", "many", "looked", "found", "word", "ways"] ["self", "lot", "bad"] (defScope s_Looks_looked_at) := ⟨rfl, rfl, rfl, by decide +kernel, rfl, by decide +kernel, by decide +kernel⟩
theorem sc_are_wares : FnScope ["thing", "ware"] ["thing"] (defScope s_are_wares) := ⟨rfl, rfl, rfl, by decide +kernel, rfl, by decide +kernel, by decide +kernel⟩
theorem sc_Looks_judged : FnScope ["self", "wares", "found", "place", "ware", "word"] ["self", "wares"] (defScope s_Looks_judged) := ⟨rfl, rfl, rfl, by decide +kernel, rfl, by decide +kernel, by decide +kernel⟩
theorem sc__law_rows : FnScope ["_law_cell_here", "_law_many", "_law_way", "_law_rows_here", "_law_k", "_law_number", "_law_let", "_law_turn"] ["_law_cell_here"] (defScope s__law_rows) := ⟨rfl, rfl, rfl, by decide +kernel, rfl, by decide +kernel, by decide +kernel⟩
theorem sc__law_word : FnScope ["_law_rows_here", "_law_looked", "_law_found"] ["_law_rows_here", "_law_looked", "_law_found"] (defScope s__law_word) := ⟨rfl, rfl, rfl, by decide +kernel, rfl, by decide +kernel, by decide +kernel⟩
theorem sc__law_lowest : FnScope ["_law_top", "_law_bottom", "_law_one", "_law_other"] ["_law_top", "_law_bottom"] (defScope s__law_lowest) := ⟨rfl, rfl, rfl, by decide +kernel, rfl, by decide +kernel, by decide +kernel⟩
theorem sc__law_end : FnScope ["_law_rows_here", "_law_wares", "_law_found", "_law_k", "_law_row"] ["_law_rows_here", "_law_wares"] (defScope s__law_end) := ⟨rfl, rfl, rfl, by decide +kernel, rfl, by decide +kernel, by decide +kernel⟩
theorem sc__law_kinds : FnScope ["_law_told", "_law_row"] ["_law_told"] (defScope s__law_kinds) := ⟨rfl, rfl, rfl, by decide +kernel, rfl, by decide +kernel, by decide +kernel⟩
theorem sc__law_right : FnScope ["_law_rows_here", "_law_lot", "_law_bad", "_law_looks", "_law_ends", "_law_bits", "_law_wares", "_law_end_here", "_law_due", "_law_told", "_law_every", "_law_good", "_law_looked", "_law_k", "_law_row"] ["_law_rows_here", "_law_lot", "_law_bad"] (defScope s__law_right) := ⟨rfl, rfl, rfl, by decide +kernel, rfl, by decide +kernel, by decide +kernel⟩
theorem sc_law : FnScope ["_law_script", "_law_k", "_law_cell_here", "_law_rows_here", "_law_lot"] ["_law_script"] (defScope s_law) := ⟨rfl, rfl, rfl, by decide +kernel, rfl, by decide +kernel, by decide +kernel⟩
/-- what the top has written -/
structure Txt (K : PySem.W.Frag) (mg : Str → Option Value) : Prop where
  n_len : mg "len" = none
  n_bool : mg "bool" = none
  n_int : mg "int" = none
  n_isinstance : mg "isinstance" = none
  n_tuple : mg "tuple" = none
  g_MOST_WARES : ∃ u, mg "MOST_WARES" = some u ∧ RelV (.int 24) u
  m_SpeakError : mg "SpeakError" = some (.ref (cA mg "SpeakError"))
  b_SpeakError : BaseI K (cA mg "SpeakError")
  m_NoTable : mg "NoTable" = some (.ref (cA mg "NoTable"))
  o_NoTable : OexC K (cA mg "NoTable")
  na_NoTable_row : PySem.W.findIn K (.ref (cA mg "NoTable")) "row" = some none
  n_enumerate : mg "enumerate" = none
  n_list : mg "list" = none
  m_Looks : mg "Looks" = some (.ref (cA mg "Looks"))
  k_Looks : Cls K (cA mg "Looks")
  na_Looks_looks : NoAttr K (cA mg "Looks") "looks"
  m_NoLot : mg "NoLot" = some (.ref (cA mg "NoLot"))
  x_NoLot : ExcAt K (cA mg "NoLot")
  n_range : mg "range" = none
  n_sorted : mg "sorted" = none
  n_abs : mg "abs" = none
  n_sum : mg "sum" = none
  n_min : mg "min" = none
  n_str : mg "str" = none
  n_max : mg "max" = none
  z_NoLot : L2.ExcC K (cA mg "NoLot")
  z_NoTable : L2.ExcC K (cA mg "NoTable")
  y_NoLot : ExcK K (cA mg "NoLot")
  y_NoTable : ExcK K (cA mg "NoTable")
  y_SpeakError : ExcK K (cA mg "SpeakError")
  d__law_cell : DefAt K mg "_law_cell" s__law_cell ["_law_script", "_law_k"]
  d__law_mixed : DefAt K mg "_law_mixed" s__law_mixed ["_law_cell_here", "_law_k"]
  d_is_whole : DefAt K mg "is_whole" s_is_whole ["thing", "low", "high"]
  d_is_row : DefAt K mg "is_row" s_is_row ["thing"]
  xi_NoTable : XIniAt K (cA mg "NoTable") "NoTable.__init__" s_NoTable___init__ ["self", "row"]
  d_need_rows : DefAt K mg "need_rows" s_need_rows ["rows"]
  i_Looks : InitAt K (cA mg "Looks") "Looks.__init__" s_Looks___init__ ["self", "rows"]
  d_Looks_word_at : MethAt K (cA mg "Looks") "word_at" "Looks.word_at" s_Looks_word_at ["self", "looked", "found"]
  d_Looks_need_lot : MethAt K (cA mg "Looks") "need_lot" "Looks.need_lot" s_Looks_need_lot ["self", "lot", "bad"]
  d_sets_of : DefAt K mg "sets_of" s_sets_of ["many", "some"]
  d_Looks_endings : MethAt K (cA mg "Looks") "endings" "Looks.endings" s_Looks_endings ["self", "lot", "bad"]
  d_divisor : DefAt K mg "divisor" s_divisor ["one", "other"]
  d_share : DefAt K mg "share" s_share ["top", "bottom"]
  d_Looks_let_by : MethAt K (cA mg "Looks") "let_by" "Looks.let_by" s_Looks_let_by ["self", "lot", "bad"]
  d_Looks_looked_at : MethAt K (cA mg "Looks") "looked_at" "Looks.looked_at" s_Looks_looked_at ["self", "lot", "bad"]
  d_are_wares : DefAt K mg "are_wares" s_are_wares ["thing"]
  d_Looks_judged : MethAt K (cA mg "Looks") "judged" "Looks.judged" s_Looks_judged ["self", "wares"]
  d__law_rows : DefAt K mg "_law_rows" s__law_rows ["_law_cell_here"]
  d__law_word : DefAt K mg "_law_word" s__law_word ["_law_rows_here", "_law_looked", "_law_found"]
  d__law_lowest : DefAt K mg "_law_lowest" s__law_lowest ["_law_top", "_law_bottom"]
  d__law_end : DefAt K mg "_law_end" s__law_end ["_law_rows_here", "_law_wares"]
  d__law_kinds : DefAt K mg "_law_kinds" s__law_kinds ["_law_told"]
  d__law_right : DefAt K mg "_law_right" s__law_right ["_law_rows_here", "_law_lot", "_law_bad"]
  d_law : DefAt K mg "law" s_law ["_law_script"]
section
variable {P : Program} {w : World} {K : PySem.W.Frag} {mg : Str → Option Value} {base : Heap}
theorem fd_Looks_looks (T : Txt K mg) {H : Hp} {a dx : Addr} {fs : List (Str × V)} {v : V} {Q : V → Prop} (h : H a = some (.ins (cA mg "Looks") dx fs)) (l : fs.lookup ("looks" : Str) = some v) (q : Q v) : ∃ a1 C dx fs v, V.ref a = V.ref a1 ∧ H a1 = some (.ins C dx fs) ∧ Cls K C ∧ NoAttr K C "looks" ∧ fs.lookup ("looks" : Str) = some v ∧ Q v := L_fldv h T.k_Looks T.na_Looks_looks l q
theorem fg_Looks_looks {H : Hp} {a : Addr} {Q : V → Prop} (h : ∃ a1 C dx fs v, V.ref a = V.ref a1 ∧ H a1 = some (.ins C dx fs) ∧ Cls K C ∧ NoAttr K C "looks" ∧ fs.lookup ("looks" : Str) = some v ∧ Q v) : ∃ a1 C dx fs v, V.ref a = V.ref a1 ∧ H a1 = some (.ins C dx fs) ∧ Cls K C ∧ NoAttr K C "looks" ∧ fs.lookup ("looks" : Str) = some v ∧ Q v := h
local macro_rules | `(tactic| walk_at "fd") => `(tactic| (with_reducible refine fg_Looks_looks ?_; with_reducible refine fd_Looks_looks (by assumption) (by walk_at "hp") (by with_unfolding_all rfl) ?_))
def sp__law_cell (K : PySem.W.Frag) (mg : Str → Option Value) : Sp := fun vs H Q _ => match vs with | [.ref a, .int k] => ∃ ns : List Int, SqL K H a (ns.map V.int) ∧ 0 ≤ k ∧ k < 1000000 ∧ ∀ c, Q (.int c) H | _ => False
theorem q__law_cell {H : Hp} {Q : VK} {E : XK} {a : Addr} {k : Int} (q : ∃ ns : List Int, SqL K H a (ns.map V.int) ∧ 0 ≤ k ∧ k < 1000000 ∧ ∀ c, Q (.int c) H) : sp__law_cell K mg [.ref a, .int k] H Q E := q
local macro_rules | `(tactic| walk_at "op") => `(tactic| with_reducible refine q__law_cell ?_)
theorem c__law_cell (T : Txt K mg) : Cal P w K mg base 1 "_law_cell" (sp__law_cell K mg) := by
  refine T.d__law_cell.cal (k := 0) sc__law_cell (by intro vs H Q E h; unfold sp__law_cell at h; split at h <;> first | rfl | exact h.elim) fun f cdv A outer s H vs Q E hr h => ?_
  refine ⟨_, (pss_cons (ps_if (pt_cmpR op_ltA (pv 1) (pe_callB call_lenA (by rfl) T.n_len (by decide +kernel) (pa_cons (pv 0) pa_nil)) (nomark _))
    (pss_one (ps_ret (pe_ix ix_seq (pv 0) (pv 1) (fun _ _ => rfl))))
    pss_nil)
    (pss_one (ps_ret (pe_op op_addA (pe_op op_mulA pe_int (pv 1)) pe_int)))), ?_⟩
  try simp only [cxOf_K, cxOf_K', cxOf_mg, cxOf_mg']
  unfold sp__law_cell at h
  split at h
  case h_2 => exact h.elim
  rename_i a k
  rw [show L2.start ["_law_script", "_law_k"] [V.ref a, V.int k] = [some (V.ref a), some (V.int k)] from rfl]
  obtain ⟨ns, hS, hk, hk2, q⟩ := h
  walk_at "sts"
  refine L_lenL hS ?_
  walk_at "sts"
  refine L_d (fun c => ?_) (fun c => ?_)
  · walk_at "sts"
    exact L_ixL hS (atI_ints hk (by rw [List.length_map] at c; exact c)) (q _)
  · walk_at "sa"
    exact q _
def sp__law_mixed (K : PySem.W.Frag) (mg : Str → Option Value) : Sp := fun vs H Q _ => match vs with | [.int c, .int k] => 0 ≤ k ∧ k < 1000000 ∧ ∀ r, 0 ≤ r → r < 1099511627776 → Q (.int r) H | _ => False
theorem q__law_mixed {H : Hp} {Q : VK} {E : XK} {c : Int} {k : Int} (q : 0 ≤ k ∧ k < 1000000 ∧ ∀ r, 0 ≤ r → r < 1099511627776 → Q (.int r) H) : sp__law_mixed K mg [.int c, .int k] H Q E := q
local macro_rules | `(tactic| walk_at "op") => `(tactic| with_reducible refine q__law_mixed ?_)
theorem c__law_mixed (T : Txt K mg) : Cal P w K mg base 1 "_law_mixed" (sp__law_mixed K mg) := by
  refine T.d__law_mixed.cal (k := 0) sc__law_mixed (by intro vs H Q E h; unfold sp__law_mixed at h; split at h <;> first | rfl | exact h.elim) fun f cdv A outer s H vs Q E hr h => ?_
  refine ⟨_, (pss_cons (ps_if (pt_cmpR (op_eqA hr) (pe_op op_mod (pv 0) pe_int) pe_int (nomark _))
    (pss_one (ps_ret (pe_op op_mod (pe_op op_shr (pv 0) (pe_op op_addA pe_int (pe_op op_mulA pe_int (pv 1)))) (pe_op op_pow pe_int pe_int))))
    pss_nil)
    (pss_cons (ps_set (i := 2) sc__law_mixed.nd rfl (.inl rfl) (pe_op op_mod (pe_op op_addA (pv 0) (pe_op op_mulA pe_int (pv 1))) pe_int))
    (pss_cons (ps_set (i := 2) sc__law_mixed.nd rfl (.inl rfl) (pe_op op_mod (pe_op op_addA (pe_op op_mulA (pv 2) pe_int) (pv 1)) pe_int))
    (pss_cons (ps_set (i := 2) sc__law_mixed.nd rfl (.inl rfl) (pe_op op_mod (pe_op op_mulA (pv 2) (pe_op op_addA (pv 2) pe_int)) pe_int))
    (pss_one (ps_ret (pe_op op_mod (pe_op op_mulA (pv 2) (pe_op op_addA (pv 2) pe_int)) pe_int))))))), ?_⟩
  try simp only [cxOf_K, cxOf_K', cxOf_mg, cxOf_mg']
  unfold sp__law_mixed at h
  split at h
  case h_2 => exact h.elim
  rename_i c k
  rw [show L2.start ["_law_cell_here", "_law_k", "_law_number"] [V.int c, V.int k] = [some (V.int c), some (V.int k), none] from rfl]
  obtain ⟨hk, hk2, q⟩ := h
  walk_at "sts"
  refine L_I (by decide) ?_
  walk_at "sts"
  refine L_d (fun c => ?_) (fun c => ?_)
  · walk_at "sts"
    refine L_mulI ((bd_64 (by decide)).cmul (bd_64 (by omega))) ?_
    walk_at "sts"
    refine L_I (show 0 ≤ _ by omega) ?_
    walk_at "sa"
    exact q _ (Int.emod_nonneg _ (by decide)) (Int.emod_lt_of_pos _ (by decide))
  · walk_at "sa"
    exact q _ (Int.emod_nonneg _ (by decide)) (Int.lt_of_lt_of_le (Int.emod_lt_of_pos _ (by decide)) (by decide))
def sp_is_whole (K : PySem.W.Frag) (mg : Str → Option Value) : Sp := fun vs H Q _ => match vs with | [v, .int lo, .int hi] => (∃ t, v = .int t ∧ Q (.bl (decide (lo ≤ t) && decide (t ≤ hi))) H) ∨ (NotW K H v ∧ Q (.bl false) H) | _ => False
theorem c_is_whole (T : Txt K mg) : Cal P w K mg base 1 "is_whole" (sp_is_whole K mg) := by
  refine T.d_is_whole.cal (k := 0) sc_is_whole (by intro vs H Q E h; unfold sp_is_whole at h; split at h <;> first | rfl | exact h.elim) fun f cdv A outer s H vs Q E hr h => ?_
  refine ⟨_, (pss_cons (ps_if (PW.pt (pw_or (pt_not (pt_val (pe_callB call_isi (by rfl) T.n_isinstance (by decide +kernel) (pa_cons (pv 0) (pa_cons (pe_ty "int" (by rfl) T.n_int (by decide +kernel)) pa_nil))))) (pw_or1 (pt_val (pe_callB call_isi (by rfl) T.n_isinstance (by decide +kernel) (pa_cons (pv 0) (pa_cons (pe_ty "bool" (by rfl) T.n_bool (by decide +kernel)) pa_nil)))))))
    (pss_one (ps_ret pe_bl))
    pss_nil)
    (pss_one (ps_ret (pe_chain op_leA op_leA (pv 1) (pv 0) (pv 2))))), ?_⟩
  try simp only [cxOf_K, cxOf_K', cxOf_mg, cxOf_mg']
  unfold sp_is_whole at h
  split at h
  case h_2 => exact h.elim
  rename_i v lo hi
  rw [show L2.start ["thing", "low", "high"] [v, V.int lo, V.int hi] = [some (v), some (V.int lo), some (V.int hi)] from rfl]
  rcases h with ⟨t, rfl, q⟩ | ⟨⟨b, rfl⟩ | ⟨ty, h1, h2⟩, q⟩
  · walk_at "sa"
    refine L_d (fun c1 => ?_) (fun c1 => ?_)
    · rw [decide_eq_true c1, Bool.true_and] at q
      walk_at "sts"
      exact q
    · rw [decide_eq_false c1, Bool.false_and] at q
      exact q
  · walk_at "sts"
    refine L_isi (.base (.bl b)) (b := true) (by decide +kernel) ?_
    walk_at "sts"
    refine L_isi (.base (.bl b)) (b := true) (by decide +kernel) ?_
    walk_at "sts"
    exact q
  · walk_at "sts"
    refine L_isi h1 h2 ?_
    walk_at "sts"
    exact q
theorem q_whole {H : Hp} {Q : VK} {E : XK} {t lo hi : Int} (q : Q (.bl (decide (lo ≤ t) && decide (t ≤ hi))) H) : sp_is_whole K mg [.int t, .int lo, .int hi] H Q E := .inl ⟨t, rfl, q⟩
theorem q_wholeT {H : Hp} {Q : VK} {E : XK} {t lo hi : Int} (h : lo ≤ t ∧ t ≤ hi) (q : Q (.bl true) H) : sp_is_whole K mg [.int t, .int lo, .int hi] H Q E := q_whole (by rw [decide_eq_true h.1, decide_eq_true h.2]; exact q)
theorem q_wholeF {H : Hp} {Q : VK} {E : XK} {t lo hi : Int} (h : ¬ (lo ≤ t ∧ t ≤ hi)) (q : Q (.bl false) H) : sp_is_whole K mg [.int t, .int lo, .int hi] H Q E := q_whole (by
  rw [show (decide (lo ≤ t) && decide (t ≤ hi)) = false by simp only [Bool.and_eq_false_iff, decide_eq_false_iff_not]; omega]; exact q)
theorem q_wholeN {H : Hp} {Q : VK} {E : XK} {v : V} {lo hi : Int} (h : NotW K H v) (q : Q (.bl false) H) : sp_is_whole K mg [v, .int lo, .int hi] H Q E := .inr ⟨h, q⟩
theorem q_wholeB {H : Hp} {Q : VK} {E : XK} {v : V} {lo hi : Int} (h : BadW K H v lo hi) (q : Q (.bl false) H) : sp_is_whole K mg [v, .int lo, .int hi] H Q E := by
  rcases h with h | ⟨t, rfl, h⟩
  · exact q_wholeN h q
  · exact q_wholeF h q
theorem q_wholeG {H : Hp} {Q : VK} {E : XK} {t lo hi : Int} (h : sp_is_whole K mg [.int t, .int lo, .int hi] H Q E) : sp_is_whole K mg [.int t, .int lo, .int hi] H Q E := h
local macro_rules | `(tactic| walk_at "op") => `(tactic| with_reducible (refine q_wholeG ?_; first | refine q_wholeT (by omega) ?_ | refine q_wholeF (by omega) ?_ | refine q_whole ?_))
/-- how many sets of k among n -/
def ch : Nat → Nat → Nat
  | _, 0 => 1
  | 0, _ + 1 => 0
  | n + 1, k + 1 => ch n k + ch n (k + 1)
theorem ch_zero (n : Nat) : ch n 0 = 1 := by cases n <;> rfl
theorem ch_step (n k : Nat) : ch (n + 1) (k + 1) = ch n k + ch n (k + 1) := rfl
theorem ch_out : ∀ {n k : Nat}, n < k → ch n k = 0
  | 0, 0, h => absurd h (Nat.lt_irrefl _)
  | 0, _ + 1, _ => rfl
  | n + 1, 0, h => absurd h (Nat.not_lt_zero _)
  | n + 1, k + 1, h => by rw [ch_step, ch_out (by omega), ch_out (by omega)]
theorem ch_up : ∀ n k : Nat, (k + 1) * ch (n + 1) (k + 1) = (n + 1) * ch n k
  | 0, 0 => rfl
  | 0, k + 1 => by rw [ch_step]; rfl
  | n + 1, 0 => by
    have h := ch_up n 0
    rw [ch_step, ch_zero]
    rw [ch_zero] at h
    omega
  | n + 1, k + 1 => by
    have h1 := ch_up n k
    have h2 := ch_up n (k + 1)
    have e : ch (n + 1 + 1) (k + 1 + 1) = ch (n + 1) (k + 1) + ch (n + 1) (k + 1 + 1) := rfl
    have e2 : ch (n + 1) (k + 1) = ch n k + ch n (k + 1) := rfl
    rw [e, Nat.mul_add, h2, show (k + 1 + 1) * ch (n + 1) (k + 1) = (k + 1) * ch (n + 1) (k + 1) + ch (n + 1) (k + 1) by rw [Nat.succ_mul], h1, show (n + 1 + 1) * ch (n + 1) (k + 1) = (n + 1) * ch (n + 1) (k + 1) + ch (n + 1) (k + 1) by rw [Nat.succ_mul], e2, Nat.mul_add]
    omega
theorem ch_next {n k : Nat} (h : k ≤ n) : (k + 1) * ch n (k + 1) = (n - k) * ch n k := by
  have h1 := ch_up n k
  rw [ch_step, Nat.mul_add] at h1
  have e : (n + 1) * ch n k = (n - k) * ch n k + (k + 1) * ch n k := by
    rw [← Nat.add_mul]
    congr 1
    omega
  omega
theorem ch_pos : ∀ {n k : Nat}, k ≤ n → 1 ≤ ch n k
  | _, 0, _ => by rw [ch_zero]; exact Nat.le_refl _
  | 0, _ + 1, h => absurd h (Nat.not_succ_le_zero _)
  | n + 1, k + 1, h => by
    rw [ch_step]
    have := ch_pos (n := n) (k := k) (by omega)
    omega
theorem ch_self : ∀ n : Nat, ch n n = 1
  | 0 => rfl
  | n + 1 => by rw [ch_step, ch_self n, ch_out (Nat.lt_succ_self n)]
def OkR (r : Int × Int) : Prop := -1 ≤ r.1 ∧ r.1 ≤ 24 ∧ 0 ≤ r.2 ∧ r.2 ≤ 25 ∧ r.1 < r.2
/-- a table of looks -/
structure OkT (rows : List (Int × Int)) : Prop where
  len : rows.length ≤ 24
  ok : ∀ r ∈ rows, OkR r
  last : ∃ ini l, rows = ini ++ [l] ∧ l.2 = l.1 + 1
def word (r : Int × Int) (f : Int) : Str := if f ≤ r.1 then Str.ofString "by" else if r.2 ≤ f then Str.ofString "down" else Str.ofString "open"
theorem OkT.lenpos {rows : List (Int × Int)} (h : OkT rows) : 1 ≤ rows.length := by
  obtain ⟨ini, l, rfl, _⟩ := h.last
  simp
/-- a plain thing -/
def scal : PyData → Bool
  | .int _ => true
  | .bool _ => true
  | .none => true
  | .str _ => true
  | _ => false
/-- what may stand in a table -/
def RowD (D : PyData) : Prop := D = .none ∨ (∃ z, D = .str z) ∨ (∃ ds, D = .list ds) ∨ ∃ ds, D = .tuple ds ∧ ∀ d ∈ ds, scal d = true
def wholeD (d : PyData) (lo hi : Int) : Bool := match d with
  | .int i => decide (lo ≤ i) && decide (i ≤ hi)
  | _ => false
def ltD (d e : PyData) : Bool := match d, e with
  | .int i, .int j => decide (i < j)
  | _, _ => false
def goodRow : PyData → Bool
  | .tuple [d, e] => wholeD d (-1) 24 && (wholeD e 0 25 && ltD d e)
  | _ => false
theorem goodRow_len {ds : List PyData} (h : ds.length ≠ 2) : goodRow (.tuple ds) = false := by
  unfold goodRow
  split
  · rename_i d e hh
    cases hh
    exact absurd rfl h
  · rfl
theorem goodRow_d2 (r : Int × Int) : goodRow (d2 r) = true ↔ OkR r := by
  show (decide (-1 ≤ r.1) && decide (r.1 ≤ 24) && (decide (0 ≤ r.2) && decide (r.2 ≤ 25) && decide (r.1 < r.2))) = true ↔ _
  unfold OkR
  simp only [Bool.and_eq_true, decide_eq_true_eq]
  omega
theorem wholeD_int {d : PyData} {lo hi : Int} (h : wholeD d lo hi = true) : ∃ i, d = .int i ∧ lo ≤ i ∧ i ≤ hi := by
  unfold wholeD at h
  split at h
  · rw [Bool.and_eq_true, decide_eq_true_eq, decide_eq_true_eq] at h
    exact ⟨_, rfl, h.1, h.2⟩
  · cases h
theorem goodRow_is {D : PyData} (h : goodRow D = true) : ∃ r, D = d2 r ∧ OkR r := by
  unfold goodRow at h
  split at h
  · rename_i d e
    rw [Bool.and_eq_true, Bool.and_eq_true] at h
    obtain ⟨i, rfl, _⟩ := wholeD_int h.1
    obtain ⟨j, rfl, _⟩ := wholeD_int h.2.1
    exact ⟨(i, j), rfl, (goodRow_d2 (i, j)).mp (by rw [show goodRow (d2 (i, j)) = (wholeD (.int i) (-1) 24 && (wholeD (.int j) 0 25 && ltD (.int i) (.int j))) from rfl, Bool.and_eq_true, Bool.and_eq_true]; exact h)⟩
  · cases h
theorem q_wholeS {K : PySem.W.Frag} {mg : Str → Option Value} {H : Hp} {Q : VK} {E : XK} {v : V} {d : PyData} {lo hi : Int} (hs : scal d = true) (h : Dp K H v d) (q : Q (.bl (wholeD d lo hi)) H) : sp_is_whole K mg [v, .int lo, .int hi] H Q E := by
  cases d with
  | int i =>
    rw [of_int h]
    exact q_whole q
  | bool b =>
    rw [of_bl h]
    exact q_wholeN notw_bl q
  | none =>
    rw [of_non h]
    exact q_wholeN notw_non q
  | str z =>
    rw [of_str h]
    exact q_wholeN notw_str q
  | _ => cases hs
def sp_is_row (K : PySem.W.Frag) (mg : Str → Option Value) : Sp := fun vs H Q _ => match vs with | [v] => ∃ D, Dp K H v D ∧ RowD D ∧ Q (.bl (goodRow D)) H | _ => False
theorem q_is_row {H : Hp} {Q : VK} {E : XK} {v : V} (q : ∃ D, Dp K H v D ∧ RowD D ∧ Q (.bl (goodRow D)) H) : sp_is_row K mg [v] H Q E := q
local macro_rules | `(tactic| walk_at "op") => `(tactic| with_reducible refine q_is_row ?_)
theorem c_is_row (T : Txt K mg) : Cal P w K mg base 2 "is_row" (sp_is_row K mg) := by
  refine T.d_is_row.cal (k := 1) sc_is_row (by intro vs H Q E h; unfold sp_is_row at h; split at h <;> first | rfl | exact h.elim) fun f cdv A outer s H vs Q E hr h => ?_
  refine ⟨_, (pss_cons (ps_if (PW.pt (pw_or (pt_not (pt_val (pe_callB call_isi (by rfl) T.n_isinstance (by decide +kernel) (pa_cons (pv 0) (pa_cons (pe_ty "tuple" (by rfl) T.n_tuple (by decide +kernel)) pa_nil))))) (pw_or1 (pt_cmpR (op_neA hr) (pe_callB call_lenA (by rfl) T.n_len (by decide +kernel) (pa_cons (pv 0) pa_nil)) pe_int (nomark _)))))
    (pss_one (ps_ret pe_bl))
    pss_nil)
    (pss_cons (ps_if (PW.pt (pw_or (pt_not (pt_val (pe_c (c_is_whole T) hr (by decide) (by rfl) (pa_cons (pe_ix ix_seq (pv 0) pe_int (fun _ _ => rfl)) (pa_cons (pe_un un_neg pe_int) (pa_cons (pe_gc (by rfl) T.g_MOST_WARES) pa_nil)))))) (pw_or1 (pt_not (pt_val (pe_c (c_is_whole T) hr (by decide) (by rfl) (pa_cons (pe_ix ix_seq (pv 0) pe_int (fun _ _ => rfl)) (pa_cons pe_int (pa_cons (pe_op op_addA (pe_gc (by rfl) T.g_MOST_WARES) pe_int) pa_nil)))))))))
    (pss_one (ps_ret pe_bl))
    pss_nil)
    (pss_one (ps_ret (pe_cmpR op_ltA (pe_ix ix_seq (pv 0) pe_int (fun _ _ => rfl)) (pe_ix ix_seq (pv 0) pe_int (fun _ _ => rfl)) (nomark _)))))), ?_⟩
  try simp only [cxOf_K, cxOf_K', cxOf_mg, cxOf_mg']
  unfold sp_is_row at h
  split at h
  case h_2 => exact h.elim
  rename_i v
  rw [show L2.start ["thing"] [v] = [some (v)] from rfl]
  obtain ⟨D, hD, hR, q⟩ := h
  rcases hR with rfl | ⟨z, rfl⟩ | ⟨ds, rfl⟩ | ⟨ds, rfl, hs⟩
  · rw [of_non hD]
    walk_at "sts"
    refine L_isi (.base .non) (b := false) (by decide +kernel) ?_
    walk_at "sts"
    exact q
  · rw [of_str hD]
    walk_at "sts"
    refine L_isi (.base (.str _)) (b := false) (by decide +kernel) ?_
    walk_at "sts"
    exact q
  · obtain ⟨a, xs, rfl, hL, _⟩ := of_lst hD
    walk_at "sts"
    refine L_isi (tyx_L hL) (b := false) (by decide +kernel) ?_
    walk_at "sts"
    exact q
  obtain ⟨a, xs, rfl, hT, hA⟩ := of_tup hD
  have hxl := hA.len
  walk_at "sts"
  refine L_isi (tyx_T hT) (b := true) (by decide +kernel) ?_
  walk_at "sts"
  refine L_lenT hT ?_
  walk_at "sts"
  by_cases h2 : ds.length = 2
  · match ds, h2, hA, hs with
    | [d, e], _, hA, hs =>
      obtain ⟨x, y, hx, hy, rfl⟩ : ∃ x y, Dp K H x d ∧ Dp K H y e ∧ xs = [x, y] := by
        cases hA with
        | cons p1 p2 => cases p2 with | cons p3 p4 => cases p4; exact ⟨_, _, p1, p3, rfl⟩
      have sd := hs d (by simp)
      have se := hs e (by simp)
      have q' : Q (.bl (wholeD d (-1) 24 && (wholeD e 0 (24 + 1) && ltD d e))) H := q
      refine L_ndF rfl ?_
      walk_at "sts"
      refine L_ixT hT rfl ?_
      walk_at "sts"
      refine q_wholeS sd hx ?_
      cases h1 : wholeD d (-1) 24 with
      | false =>
        rw [h1, Bool.false_and] at q'
        walk_at "sts"
        exact q'
      | true =>
        rw [h1, Bool.true_and] at q'
        walk_at "sts"
        refine L_ixT hT rfl ?_
        walk_at "sts"
        refine q_wholeS se hy ?_
        cases h2 : wholeD e 0 (24 + 1) with
        | false =>
          rw [h2, Bool.false_and] at q'
          walk_at "sts"
          exact q'
        | true =>
          rw [h2, Bool.true_and] at q'
          obtain ⟨i, rfl, _⟩ := wholeD_int h1
          obtain ⟨j, rfl, _⟩ := wholeD_int h2
          rw [of_int hx, of_int hy] at hT
          walk_at "sts"
          refine L_ixT hT rfl ?_
          walk_at "sts"
          refine L_ixT hT rfl ?_
          refine L_ltI ?_
          exact q'
  · refine L_ndT (by omega) ?_
    rw [goodRow_len h2] at q
    walk_at "sts"
    exact q
def fb : Nat → List PyData → Option Nat
  | _, [] => none
  | k, D :: r => if goodRow D = true then fb (k + 1) r else some k
def shut : PyData → Bool
  | .tuple [.int x, .int y] => decide (y = x + 1)
  | _ => false
def badT (Ds : List PyData) : Option Nat := if Ds.length = 0 then some 0 else if 24 < Ds.length then some 24 else match fb 0 Ds with
  | some k => some k
  | none => if (Ds.getLast?.map shut).getD false = true then none else some (Ds.length - 1)
theorem fb_none {k : Nat} : ∀ {Ds : List PyData}, fb k Ds = none → ∀ D ∈ Ds, goodRow D = true := by
  intro Ds
  induction Ds generalizing k with
  | nil => intro _ D h; cases h
  | cons E r ih =>
    intro h D hD
    unfold fb at h
    split at h
    · rcases List.mem_cons.mp hD with rfl | hD
      · assumption
      · exact ih h D hD
    · cases h
theorem fb_all {k : Nat} : ∀ {Ds : List PyData}, (∀ D ∈ Ds, goodRow D = true) → fb k Ds = none := by
  intro Ds
  induction Ds generalizing k with
  | nil => intro _; rfl
  | cons E r ih =>
    intro h
    unfold fb
    rw [if_pos (h E (List.mem_cons_self ..))]
    exact ih fun D hD => h D (List.mem_cons_of_mem _ hD)
theorem rows_of : ∀ {Ds : List PyData}, (∀ D ∈ Ds, goodRow D = true) → ∃ rows : List (Int × Int), Ds = rows.map d2 ∧ ∀ r ∈ rows, OkR r
  | [], _ => ⟨[], rfl, fun r h => nomatch h⟩
  | D :: Ds, h => by
    obtain ⟨r, rfl, hr⟩ := goodRow_is (h D (List.mem_cons_self ..))
    obtain ⟨rows, rfl, hh⟩ := rows_of fun E hE => h E (List.mem_cons_of_mem _ hE)
    exact ⟨r :: rows, rfl, fun x hx => by
      rcases List.mem_cons.mp hx with rfl | hx
      · exact hr
      · exact hh x hx⟩
theorem badT_none {Ds : List PyData} (h : badT Ds = none) : ∃ rows : List (Int × Int), Ds = rows.map d2 ∧ OkT rows := by
  unfold badT at h
  split at h
  · cases h
  · split at h
    · cases h
    · split at h
      · cases h
      · rename_i h24 _ hf
        split at h
        · rename_i hs
          obtain ⟨rows, rfl, hr⟩ := rows_of (fb_none hf)
          refine ⟨rows, rfl, by rw [List.length_map] at h24; omega, hr, ?_⟩
          rw [List.getLast?_map] at hs
          cases e : rows.getLast? with
          | none => rw [e] at hs; cases hs
          | some l =>
            obtain ⟨ini, rfl⟩ := List.getLast?_eq_some_iff.mp e
            rw [e] at hs
            exact ⟨ini, l, rfl, of_decide_eq_true hs⟩
        · cases h
theorem badT_ok {rows : List (Int × Int)} (h : OkT rows) : badT (rows.map d2) = none := by
  unfold badT
  have h1 := h.lenpos
  have h2 := h.len
  rw [List.length_map, if_neg (by omega), if_neg (by omega), fb_all fun D hD => by
    obtain ⟨r, hr, rfl⟩ := List.mem_map.mp hD
    exact (goodRow_d2 r).mpr (h.ok r hr)]
  obtain ⟨ini, l, rfl, hl⟩ := h.last
  rw [List.getLast?_map, List.getLast?_append]
  show (if decide (l.2 = l.1 + 1) = true then none else _) = none
  rw [if_pos (decide_eq_true hl)]
theorem RowD_d2 (r : Int × Int) : RowD (d2 r) := .inr (.inr (.inr ⟨_, rfl, fun d hd => by
  simp only [List.mem_cons, List.not_mem_nil, or_false] at hd
  rcases hd with rfl | rfl <;> rfl⟩))
/-- what is asked of what is handed in as a table -/
def Tab (K : PySem.W.Frag) (mg : Str → Option Value) (H : Hp) (v : V) (E : XK) (R : Addr → List V → List (Int × Int) → Prop) : Prop :=
  (NotL K H v ∧ ∀ d H', Same H H' → H' d = some (.xd [("row", .int 0)]) → E (.ref (cA mg "NoTable")) (some d) H') ∨
  ∃ a us Ds, v = .ref a ∧ SqL K H a us ∧ DpAll K H us Ds ∧ us.length ≤ 1000 ∧ (∀ D ∈ Ds, RowD D) ∧ (∀ n : Nat, badT Ds = some n → ∀ d H', Same H H' → H' d = some (.xd [("row", .int (n : Int))]) → E (.ref (cA mg "NoTable")) (some d) H') ∧ ∀ rows, Ds = rows.map d2 → OkT rows → R a us rows
def sp_NoTable___init__ (K : PySem.W.Frag) (mg : Str → Option Value) : Sp := fun vs H Q _ => match vs with | [.ref a, v] => XIni1 (cA mg "NoTable") "row" a v H Q | _ => False
theorem q_NoTable___init__ {H : Hp} {Q : VK} {E : XK} {a : Addr} {v : V} (q : XIni1 (cA mg "NoTable") "row" a v H Q) : sp_NoTable___init__ K mg [.ref a, v] H Q E := q
local macro_rules | `(tactic| walk_at "op") => `(tactic| with_reducible refine q_NoTable___init__ ?_)
theorem x_NoTable (T : Txt K mg) : XMak P w K mg base 1 "NoTable" (cA mg "NoTable") (sp_NoTable___init__ K mg) := by
  refine XIniAt.xmak T.m_NoTable T.xi_NoTable (k := 0) sc_NoTable___init__ (by intro vs H Q E h; unfold sp_NoTable___init__ at h; split at h <;> first | rfl | exact h.elim) fun f cdv A outer s H vs Q E hr h => ?_
  refine ⟨_, (pss_cons (ps_expr (pe_baseI (by rfl) T.m_SpeakError T.b_SpeakError (pa_cons (pv 0) (pa_cons pe_str pa_nil))))
    (pss_one (ps_ost (pv 0) (pv 1) rfl))), ?_⟩
  try simp only [cxOf_K, cxOf_K', cxOf_mg, cxOf_mg']
  unfold sp_NoTable___init__ at h
  split at h
  case h_2 => exact h.elim
  rename_i a v
  rw [show L2.start ["self", "row"] [V.ref a, v] = [some (V.ref a), some (v)] from rfl]
  obtain ⟨ha, q⟩ := h
  walk_at "sts"
  refine L_tveI ?_
  walk_at "sts"
  refine L_veI T.o_NoTable ha (by rw [List.length_singleton]; decide) ?_
  walk_at "sts"
  refine L_ost ?_
  walk_at "sts"
  refine L_ost1 T.o_NoTable T.na_NoTable_row ha fun dx nx ne => ?_
  exact q dx nx ne
theorem q_noT {H : Hp} {E : XK} {i : Int} (q : ∀ d H', Same H H' → H' d = some (.xd [("row", .int i)]) → E (.ref (cA mg "NoTable")) (some d) H') : [V.int i].length ≤ 1000 ∧ ∀ a, H a = none → sp_NoTable___init__ K mg (.ref a :: ([V.int i] ++ [])) (upd H a (exo a (cA mg "NoTable") none))
  (fun v H2 => v = .non ∧ ∃ (d : Addr) (fs : List (Str × V)), H2 a = some (exo a (cA mg "NoTable") (some d)) ∧ H2 d = some (exd d fs) ∧ H d = none ∧ E (.ref (cA mg "NoTable")) (some d) (upd (del H2 a) d (.xd fs))) (fun _ _ _ => False) :=
  L_mkO1 (fun _ _ _ _ h => h) fun d nd => q d _ (same_new nd) upd_same
def sp_need_rows (K : PySem.W.Frag) (mg : Str → Option Value) : Sp := fun vs H Q E => match vs with | [v] => Tab K mg H v E (fun _ _ _ => ∀ H', Same H H' → Q .non H') | _ => False
theorem c_need_rows (T : Txt K mg) : CalX P w K mg base 3 "need_rows" (sp_need_rows K mg) := by
  refine T.d_need_rows.calX (k := 2) sc_need_rows (by intro vs H Q E h; unfold sp_need_rows at h; split at h <;> first | rfl | exact h.elim) fun f cdv A outer s H vs Q E hr h => ?_
  refine ⟨_, (pss_cons (ps_if (PW.pt (pw_or (pt_not (pt_val (pe_callB call_isi (by rfl) T.n_isinstance (by decide +kernel) (pa_cons (pv 0) (pa_cons (pe_ty "list" (by rfl) T.n_list (by decide +kernel)) pa_nil))))) (pw_or1 (pt_cmpR (op_eqA hr) (pe_callB call_lenA (by rfl) T.n_len (by decide +kernel) (pa_cons (pv 0) pa_nil)) pe_int (nomark _)))))
    (pss_one (ps_raise rfl (takes_of rfl rfl rfl rfl) (pmk_x (x_NoTable T) T.o_NoTable hr (by decide) (by rfl) (pa_cons pe_int pa_nil))))
    pss_nil)
    (pss_cons (ps_if (pt_cmpR op_gt (pe_callB call_lenA (by rfl) T.n_len (by decide +kernel) (pa_cons (pv 0) pa_nil)) (pe_gc (by rfl) T.g_MOST_WARES) (nomark _))
    (pss_one (ps_raise rfl (takes_of rfl rfl rfl rfl) (pmk_x (x_NoTable T) T.o_NoTable hr (by decide) (by rfl) (pa_cons (pe_gc (by rfl) T.g_MOST_WARES) pa_nil))))
    pss_nil)
    (pss_cons (ps_for (passes_of rfl) rfl (pi_enum (by rfl) T.n_enumerate (pa_cons (pv 0) pa_nil)) (pg_tup rfl (pgs_cons (pg_name (i := 1) sc_need_rows.nd rfl (.inl rfl)) (pgs_cons (pg_name (i := 2) sc_need_rows.nd rfl (.inl rfl)) pgs_nil)))
    (pss_one (ps_if (pt_not (pt_val (pe_c (c_is_row T) hr (by decide) (by rfl) (pa_cons (pv 2) pa_nil))))
    (pss_one (ps_raise rfl (takes_of rfl rfl rfl rfl) (pmk_x (x_NoTable T) T.o_NoTable hr (by decide) (by rfl) (pa_cons (pv 1) pa_nil))))
    pss_nil)))
    (pss_cons (ps_asg (pe_ix ix_seq (pv 0) (pe_un un_neg pe_int) (fun _ _ => rfl)) (pg_tup rfl (pgs_cons (pg_name (i := 3) sc_need_rows.nd rfl (.inl rfl)) (pgs_cons (pg_name (i := 4) sc_need_rows.nd rfl (.inl rfl)) pgs_nil))))
    (pss_one (ps_if (pt_cmpR (op_neA hr) (pv 4) (pe_op op_addA (pv 3) pe_int) (nomark _))
    (pss_one (ps_raise rfl (takes_of rfl rfl rfl rfl) (pmk_x (x_NoTable T) T.o_NoTable hr (by decide) (by rfl) (pa_cons (pe_op op_sub (pe_callB call_lenA (by rfl) T.n_len (by decide +kernel) (pa_cons (pv 0) pa_nil)) pe_int) pa_nil))))
    pss_nil)))))), ?_⟩
  try simp only [cxOf_K, cxOf_K', cxOf_mg, cxOf_mg']
  unfold sp_need_rows at h
  split at h
  case h_2 => exact h.elim
  rename_i v
  rw [show L2.start ["rows", "number", "row", "let", "turn"] [v] = [some (v), none, none, none, none] from rfl]
  rcases h with ⟨⟨ty, h1, h2⟩, q⟩ | ⟨a, us, Ds, rfl, hL, hA, hl, hR, q1, q2⟩
  · walk_at "sts"
    refine L_isi h1 h2 ?_
    walk_at "sts"
    refine L_mkO ?_
    walk_at "sts"
    exact q_noT q
  have hul := hA.len
  walk_at "sts"
  refine L_isi (tyx_L hL) (b := true) (by decide +kernel) ?_
  walk_at "sts"
  refine L_lenL hL ?_
  walk_at "sts"
  refine L_d (fun c1 => ?_) (fun c1 => ?_)
  · walk_at "sts"
    refine L_mkO ?_
    walk_at "sts"
    refine q_noT (q1 0 ?_)
    unfold badT
    rw [if_pos (by omega)]
  walk_at "sts"
  refine L_lenL hL ?_
  walk_at "sts"
  refine L_d (fun c2 => ?_) (fun c2 => ?_)
  · walk_at "sts"
    refine L_mkO ?_
    walk_at "sts"
    refine q_noT (q1 24 ?_)
    unfold badT
    rw [if_neg (by omega), if_pos (by omega)]
  have hbt : badT Ds = match fb 0 Ds with
    | some k => some k
    | none => if (Ds.getLast?.map shut).getD false = true then none else some (Ds.length - 1) := by
    unfold badT
    rw [if_neg (by omega), if_neg (by omega)]
  walk_at "sts"
  refine L_re hL ?_
  refine f_it walk_enum (fun i σ' H' => Same H H' ∧ (∃ v1 v2, σ' = [some (.ref a), v1, v2, none, none]) ∧ fb 0 Ds = fb i (Ds.drop i)) ⟨Same.refl _, ⟨_, _, rfl⟩, by rw [List.drop_zero]⟩ (fun _ _ _ _ p => p.1.seq hL) ?_ ?_
  · rintro i x σ' H4 H4' hi ⟨s4, ⟨v1, v2, rfl⟩, hk⟩ ⟨T1, k0, t0, rfl, hT, rfl, hk0, hx⟩
    cases hk0
    replace hx : us[i]? = some t0 := hx
    obtain ⟨D, h1, h2⟩ := hA.of hx
    have hd : Ds.drop i = D :: Ds.drop (i + 1) := by
      obtain ⟨hlt, e⟩ := List.getElem?_eq_some_iff.mp h1
      rw [← e]
      exact List.drop_eq_getElem_cons hlt
    rw [hd, fb] at hk
    refine L_gTup (.of upd_same) rfl ?_
    have s4b := same_upd (o := HO.tup [V.int (i : Int), t0]) s4 hT
    walk_at "sts"
    refine ⟨D, h2.same s4b, hR D (List.mem_of_getElem? h1), ?_⟩
    cases hg : goodRow D with
    | true =>
      rw [hg, if_pos rfl] at hk
      walk_at "sts"
      exact ⟨s4b, ⟨_, _, rfl⟩, hk⟩
    | false =>
      rw [hg, if_neg Bool.false_ne_true] at hk
      walk_at "sts"
      refine L_mkO ?_
      walk_at "sts"
      refine q_noT (fun d H' s => q1 i ?_ d H' (s4b.trans s))
      rw [hbt, hk]
  · rintro σ' H4 ⟨s4, ⟨v1, v2, rfl⟩, hk⟩
    rw [show Ds.drop us.length = [] from List.drop_eq_nil_of_le (by omega)] at hk
    replace hk : fb 0 Ds = none := hk
    obtain ⟨rows, rfl, hok⟩ := rows_of (fb_none hk)
    rw [List.length_map] at hul
    rw [hk] at hbt
    have hi : us[us.length - 1]? = some us[us.length - 1] := List.getElem?_eq_getElem (by omega)
    obtain ⟨r, t, hr, ht, hRT⟩ := hit2 hA hi
    have hgl : rows.getLast? = some r := by rw [List.getLast?_eq_getElem?, ← hul, hr]
    rw [List.getLast?_map, hgl] at hbt
    replace hbt : badT (rows.map d2) = if decide (r.2 = r.1 + 1) = true then none else some ((rows.map d2).length - 1) := hbt
    walk_at "sts"
    refine L_ixL (s4.seq hL) (v := .ref t) ?_ ?_
    · unfold atI ixN
      rw [if_neg (by decide), if_pos (by omega)]
      show us[((-1 : Int) + us.length).toNat]? = _
      rw [show ((-1 : Int) + us.length).toNat = us.length - 1 by omega, hi, ht]
    refine L_gTup (s4.seqT hRT) rfl ?_
    walk_at "sts"
    refine L_nd (fun c3 => ?_) (fun c3 => ?_)
    · walk_at "sts"
      refine L_mkO ?_
      walk_at "sts"
      refine L_lenL (s4.seq hL) ?_
      walk_at "sts"
      rw [show ((us.length : Nat) : Int) - 1 = ((us.length - 1 : Nat) : Int) by omega]
      refine q_noT (fun d H' s => q1 (us.length - 1) ?_ d H' (s4.trans s))
      rw [hbt, decide_eq_false c3, if_neg Bool.false_ne_true, List.length_map, hul]
    · rw [decide_eq_true c3, if_pos rfl] at hbt
      obtain ⟨rows', he, ho⟩ := badT_none hbt
      exact q2 rows' he ho _ s4
def sp_Looks___init__ (K : PySem.W.Frag) (mg : Str → Option Value) : Sp := fun vs H Q E => match vs with | [.ref x, v] => ∃ dx, H x = some (.ins (cA mg "Looks") dx []) ∧ Tab K mg H v E (fun _ us _ => ∀ p H', H p = none → (∀ b o, H b = some o → b ≠ x → H' b = some o) → H' p = some (.lst us) → H' x = some (.ins (cA mg "Looks") dx [("looks", .ref p)]) → Q .non H') | _ => False
theorem m_Looks (T : Txt K mg) : MakX P w K mg base 4 "Looks" (cA mg "Looks") (sp_Looks___init__ K mg) := by
  refine InitAt.makX T.m_Looks T.i_Looks (k := 3) sc_Looks___init__ (by intro vs H Q E h; unfold sp_Looks___init__ at h; split at h <;> first | rfl | exact h.elim) fun f cdv A outer s H vs Q E hr h => ?_
  refine ⟨_, (pss_cons (ps_expr (pe_xS (c_need_rows T) hr (by decide) (by rfl) (fun σ => passAt (takes_of rfl rfl rfl rfl) σ) (pa_cons (pv 1) pa_nil)))
    (pss_one (ps_fld (pv 0) (pe_callTy call_list1A (by rfl) T.n_list (by decide +kernel) (pa_cons (pv 1) pa_nil)) rfl))), ?_⟩
  try simp only [cxOf_K, cxOf_K', cxOf_mg, cxOf_mg']
  unfold sp_Looks___init__ at h
  split at h
  case h_2 => exact h.elim
  rename_i x v
  rw [show L2.start ["self", "rows"] [V.ref x, v] = [some (V.ref x), some (v)] from rfl]
  obtain ⟨dx, hx, h⟩ := h
  walk_at "sts"
  rcases h with h | ⟨a, us, Ds, rfl, hL, hA, hl, hR, q1, q2⟩
  · exact .inl h
  refine .inr ⟨a, us, Ds, rfl, hL, hA, hl, hR, q1, fun rows e ho H1 s1 => ?_⟩
  have q := q2 rows e ho
  walk_at "sts"
  refine L_list1 (s1.seq hL) ?_
  walk_at "nwp"
  rename_i p2 hp2 H2 s2 e2
  walk_at "sts"
  have hx2 := (s1.trans s2) _ _ hx
  refine L_sFldv hx2 T.k_Looks T.na_Looks_looks (by decide) ?_
  have n2 : p2 ≠ x := ne_new hp2 ⟨_, s1 _ _ hx⟩
  refine q p2 _ (s1.free hp2) (fun b o hb ne => by rw [upd_ne ne]; exact (s1.trans s2) _ _ hb) (by rw [upd_ne n2]; exact e2) ?_
  rw [upd_same]
  rfl
/-- an object of the class, its rows -/
def LK (K : PySem.W.Frag) (mg : Str → Option Value) (H : Hp) (x : Addr) (rows : List (Int × Int)) : Prop := ∃ (dx p : Addr) (us : List V), H x = some (.ins (cA mg "Looks") dx [("looks", .ref p)]) ∧ H p = some (.lst us) ∧ DpAll K H us (rows.map d2) ∧ OkT rows
theorem LK.same {K : PySem.W.Frag} {mg : Str → Option Value} {H H' : Hp} {x : Addr} {rows : List (Int × Int)} (h : LK K mg H x rows) (s : Same H H') : LK K mg H' x rows := by
  obtain ⟨dx, p, us, h1, h2, h3, h4⟩ := h
  exact ⟨dx, p, us, s _ _ h1, s _ _ h2, h3.same s, h4⟩
def sp_Looks_word_at (K : PySem.W.Frag) (mg : Str → Option Value) : Sp := fun vs H Q _ => match vs with | [.ref x, .int k, .int f] => ∃ (rows : List (Int × Int)) (r : Int × Int), LK K mg H x rows ∧ 1 ≤ k ∧ rows[(k - 1).toNat]? = some r ∧ Q (.str (word r f)) H | _ => False
theorem q_Looks_word_at {H : Hp} {Q : VK} {E : XK} {x : Addr} {k : Int} {f : Int} (q : ∃ (rows : List (Int × Int)) (r : Int × Int), LK K mg H x rows ∧ 1 ≤ k ∧ rows[(k - 1).toNat]? = some r ∧ Q (.str (word r f)) H) : sp_Looks_word_at K mg [.ref x, .int k, .int f] H Q E := q
local macro_rules | `(tactic| walk_at "op") => `(tactic| with_reducible refine q_Looks_word_at ?_)
theorem c_Looks_word_at (T : Txt K mg) : Met P w K mg base 1 (cA mg "Looks") "word_at" (sp_Looks_word_at K mg) := by
  refine MethAt.met T.k_Looks T.d_Looks_word_at (k := 0) sc_Looks_word_at (by intro vs H Q E h; unfold sp_Looks_word_at at h; split at h <;> first | rfl | exact h.elim) fun f cdv A outer s H vs Q E hr h => ?_
  refine ⟨_, (pss_cons (ps_asg (pe_ix ix_seq (pe_fld (pv 0) rfl) (pe_op op_sub (pv 1) pe_int) (fun _ _ => rfl)) (pg_tup rfl (pgs_cons (pg_name (i := 3) sc_Looks_word_at.nd rfl (.inl rfl)) (pgs_cons (pg_name (i := 4) sc_Looks_word_at.nd rfl (.inl rfl)) pgs_nil))))
    (pss_cons (ps_if (pt_cmpR op_leA (pv 2) (pv 3) (nomark _))
    (pss_one (ps_ret pe_str))
    pss_nil)
    (pss_cons (ps_if (pt_cmpR op_ge (pv 2) (pv 4) (nomark _))
    (pss_one (ps_ret pe_str))
    pss_nil)
    (pss_one (ps_ret pe_str))))), ?_⟩
  try simp only [cxOf_K, cxOf_K', cxOf_mg, cxOf_mg']
  unfold sp_Looks_word_at at h
  split at h
  case h_2 => exact h.elim
  rename_i x k f
  rw [show L2.start ["self", "looked", "found", "let", "turn"] [V.ref x, V.int k, V.int f] = [some (V.ref x), some (V.int k), some (V.int f), none, none] from rfl]
  obtain ⟨rows, r, ⟨dx, p, us, hx, hp, hA, _⟩, hk, hr, q⟩ := h
  have hul := hA.len
  rw [List.length_map] at hul
  have hi := (List.getElem?_eq_some_iff.mp hr).1
  obtain ⟨r', t, hr', ht, hRT⟩ := hit2 hA (List.getElem?_eq_getElem (show (k - 1).toNat < us.length by omega))
  rw [hr] at hr'
  cases hr'
  walk_at "sa"
  refine L_ixL (.of hp) (atI_int (by omega) (List.getElem?_eq_getElem (show (k - 1).toNat < us.length by omega))) ?_
  rw [ht]
  refine L_gTup hRT rfl ?_
  unfold word at q
  walk_at "sts"
  refine L_d (fun c1 => ?_) (fun c1 => ?_)
  · rw [if_pos c1] at q
    walk_at "sts"
    exact q
  rw [if_neg c1] at q
  walk_at "sts"
  refine L_d (fun c2 => ?_) (fun c2 => ?_)
  · rw [if_pos c2] at q
    walk_at "sts"
    exact q
  rw [if_neg c2] at q
  walk_at "sts"
  exact q
/-- no lot for a table of n rows -/
def BadLot (K : PySem.W.Frag) (H : Hp) (n : Nat) (v w : V) : Prop := BadW K H v (n : Int) 24 ∨ ∃ lot : Int, v = .int lot ∧ (n : Int) ≤ lot ∧ lot ≤ 24 ∧ BadW K H w 0 lot
def Lot (n : Nat) (v w : V) (lot bad : Int) : Prop := v = .int lot ∧ w = .int bad ∧ (n : Int) ≤ lot ∧ lot ≤ 24 ∧ 0 ≤ bad ∧ bad ≤ lot
def sp_Looks_need_lot (K : PySem.W.Frag) (mg : Str → Option Value) : Sp := fun vs H Q E => match vs with | [.ref x, v, w] => ∃ rows, LK K mg H x rows ∧ ((BadLot K H rows.length v w ∧ E (.ref (cA mg "NoLot")) none H) ∨ ∃ lot bad, Lot rows.length v w lot bad ∧ Q .non H) | _ => False
theorem c_Looks_need_lot (T : Txt K mg) : MetX P w K mg base 2 (cA mg "Looks") "need_lot" (sp_Looks_need_lot K mg) := by
  refine MethAt.metX T.k_Looks T.d_Looks_need_lot (k := 1) sc_Looks_need_lot (by intro vs H Q E h; unfold sp_Looks_need_lot at h; split at h <;> first | rfl | exact h.elim) fun f cdv A outer s H vs Q E hr h => ?_
  refine ⟨_, (pss_one (ps_if (PW.pt (pw_or (pt_not (pt_val (pe_c (c_is_whole T) hr (by decide) (by rfl) (pa_cons (pv 1) (pa_cons (pe_callB call_lenA (by rfl) T.n_len (by decide +kernel) (pa_cons (pe_fld (pv 0) rfl) pa_nil)) (pa_cons (pe_gc (by rfl) T.g_MOST_WARES) pa_nil)))))) (pw_or1 (pt_not (pt_val (pe_c (c_is_whole T) hr (by decide) (by rfl) (pa_cons (pv 2) (pa_cons pe_int (pa_cons (pv 1) pa_nil)))))))))
    (pss_one (ps_raise rfl (takes_of rfl rfl rfl rfl) (pmk_own0 T.x_NoLot T.m_NoLot (by rfl))))
    pss_nil)), ?_⟩
  try simp only [cxOf_K, cxOf_K', cxOf_mg, cxOf_mg']
  unfold sp_Looks_need_lot at h
  split at h
  case h_2 => exact h.elim
  rename_i x v w
  rw [show L2.start ["self", "lot", "bad"] [V.ref x, v, w] = [some (V.ref x), some (v), some (w)] from rfl]
  obtain ⟨rows, ⟨dx, p, us, hx, hp, hA, ho⟩, h⟩ := h
  have hul := hA.len
  rw [List.length_map] at hul
  walk_at "sa"
  rw [hul]
  rcases h with ⟨hb | ⟨lot, rfl, l0, l1, hb⟩, q⟩ | ⟨lot, bad, ⟨rfl, rfl, l0, l1, b0, b1⟩, q⟩
  · refine q_wholeB hb ?_
    walk_at "sts"
    exact q
  · refine q_wholeT ⟨l0, l1⟩ ?_
    walk_at "sts"
    refine q_wholeB hb ?_
    walk_at "sts"
    exact q
  · refine q_wholeT ⟨l0, l1⟩ ?_
    walk_at "sts"
    exact q
/-- how many sets, as it is reckoned -/
def chs (many : Int) : Nat → Int
  | 0 => 1
  | k + 1 => chs many k * (many - (k : Int)) / ((k : Int) + 1)
theorem chs_b {many : Int} (h0 : 0 ≤ many) (h1 : many ≤ 24) : ∀ {k : Nat}, (k : Int) ≤ many → 0 ≤ chs many k ∧ chs many k ≤ 24 ^ k
  | 0, _ => ⟨show (0 : Int) ≤ 1 by decide, show (1 : Int) ≤ 24 ^ 0 by decide⟩
  | k + 1, hk => by
    obtain ⟨a, b⟩ := chs_b h0 h1 (k := k) (by omega)
    have e1 : 0 ≤ chs many k * (many - (k : Int)) := Int.mul_nonneg a (by omega)
    have e2 : chs many k * (many - (k : Int)) ≤ 24 ^ k * 24 := Int.mul_le_mul b (by omega) (by omega) (Int.pow_nonneg (by decide))
    show 0 ≤ chs many k * (many - (k : Int)) / ((k : Int) + 1) ∧ chs many k * (many - (k : Int)) / ((k : Int) + 1) ≤ 24 ^ (k + 1)
    refine ⟨Int.ediv_nonneg e1 (by omega), ?_⟩
    rw [Int.pow_succ]
    exact Int.le_trans (Int.ediv_le_self _ e1) e2
theorem pow24 {k : Nat} (h : k ≤ 24) : (24 : Int) ^ k ≤ 2 ^ 120 := by
  have h1 : (24 : Int) ^ k ≤ 32 ^ k := by
    induction k with
    | zero => decide
    | succ k ih =>
      rw [Int.pow_succ, Int.pow_succ]
      exact Int.mul_le_mul (ih (by omega)) (by decide) (by decide) (Int.pow_nonneg (by decide))
  have h2 : (32 : Int) ^ k = 2 ^ (5 * k) := by rw [Int.pow_mul]; rfl
  have h3 : (2 : Nat) ^ (5 * k) ≤ 2 ^ 120 := Nat.pow_le_pow_right (by decide) (by omega)
  have h4 : ((2 : Nat) ^ (5 * k) : Int) ≤ ((2 : Nat) ^ 120 : Int) := by exact_mod_cast h3
  rw [h2] at h1
  exact Int.le_trans h1 h4
theorem chs_ch {n : Nat} : ∀ {k : Nat}, k ≤ n → chs (n : Int) k = (ch n k : Nat)
  | 0, _ => by rw [ch_zero]; rfl
  | k + 1, h => by
    rw [chs, chs_ch (show k ≤ n by omega)]
    have e := ch_next (n := n) (k := k) (by omega)
    have e2 : (((ch n k : Nat) : Int) * ((n : Int) - (k : Int))) = ((k : Int) + 1) * ((ch n (k + 1) : Nat) : Int) := by
      rw [show ((n : Int) - (k : Int)) = ((n - k : Nat) : Int) by omega, show ((k : Int) + 1) = ((k + 1 : Nat) : Int) by omega, Int.mul_comm]
      exact_mod_cast e.symm
    rw [e2, Int.mul_ediv_cancel_left _ (by omega)]
theorem chs_pos {many : Int} (h1 : many ≤ 24) {k : Nat} (hk : (k : Int) ≤ many) : 1 ≤ chs many k ∧ Bd 128 (chs many k) := by
  obtain ⟨n, rfl⟩ : ∃ n : Nat, many = n := ⟨many.toNat, by omega⟩
  have hb := chs_b (by omega) h1 hk
  have p24 := pow24 (show k ≤ 24 by omega)
  refine ⟨?_, bd_128 (by omega)⟩
  rw [chs_ch (by omega)]
  have := ch_pos (n := n) (k := k) (by omega)
  omega
def sp_sets_of (K : PySem.W.Frag) (mg : Str → Option Value) : Sp := fun vs H Q _ => match vs with | [.int many, .int some_] => 0 ≤ some_ ∧ some_ ≤ many ∧ many ≤ 24 ∧ Q (.int (chs many some_.toNat)) H | _ => False
theorem q_sets_of {H : Hp} {Q : VK} {E : XK} {many : Int} {some_ : Int} (q : 0 ≤ some_ ∧ some_ ≤ many ∧ many ≤ 24 ∧ Q (.int (chs many some_.toNat)) H) : sp_sets_of K mg [.int many, .int some_] H Q E := q
local macro_rules | `(tactic| walk_at "op") => `(tactic| with_reducible refine q_sets_of ?_)
theorem c_sets_of (T : Txt K mg) : Cal P w K mg base 1 "sets_of" (sp_sets_of K mg) := by
  refine T.d_sets_of.cal (k := 0) sc_sets_of (by intro vs H Q E h; unfold sp_sets_of at h; split at h <;> first | rfl | exact h.elim) fun f cdv A outer s H vs Q E hr h => ?_
  refine ⟨_, (pss_cons (ps_set (i := 2) sc_sets_of.nd rfl (.inl rfl) pe_int)
    (pss_cons (ps_for PassesOwn.never rfl (pi_range1 (by rfl) T.n_range (pa_cons (pv 1) pa_nil)) (pg_name (i := 3) sc_sets_of.nd rfl (.inl rfl))
    (pss_one (ps_set (i := 2) sc_sets_of.nd rfl (.inl rfl) (pe_op op_fdivW (pe_op op_mulA (pv 2) (pe_op op_sub (pv 0) (pv 3))) (pe_op op_addA (pv 3) pe_int)))))
    (pss_one (ps_ret (pv 2))))), ?_⟩
  try simp only [cxOf_K, cxOf_K', cxOf_mg, cxOf_mg']
  unfold sp_sets_of at h
  split at h
  case h_2 => exact h.elim
  rename_i many some_
  rw [show L2.start ["many", "some", "found", "k"] [V.int many, V.int some_] = [some (V.int many), some (V.int some_), none, none] from rfl]
  obtain ⟨h0, h1, h2, q⟩ := h
  walk_at "sts"
  refine L_r1 (by omega) (by omega) ?_
  refine f_range (fun k σ' H' => H' = H ∧ ∃ v3 : Option V, σ' = [some (.int many), some (.int some_), some (.int (chs many k)), v3]) ⟨rfl, _, rfl⟩ ?_ ?_
  · rintro k σ' H' hk ⟨rfl, v3, rfl⟩
    obtain ⟨a, b⟩ := chs_b (by omega : 0 ≤ many) h2 (k := k) (by omega)
    have p24 := pow24 (show k ≤ 24 by omega)
    have b128 : Bd 128 (chs many k) := bd_128 (by omega)
    walk_at "sts"
    refine L_mulI (b128.cmul (bd_64 (by omega))) ?_
    walk_at "sts"
    refine L_I ((bd_64 (by omega)).cdiv (by omega)) ?_
    walk_at "sts"
    exact ⟨rfl, _, by rw [Int.zero_add]; rfl⟩
  · rintro σ' H' ⟨rfl, v3, rfl⟩
    walk_at "sts"
    exact q
theorem DGr.len {kvs : List (Key × V)} {g : Int → Int} (hg : DGr kvs g) {n : Nat} (hb : ∀ f, g f ≠ 0 → 0 ≤ f ∧ f < n) : kvs.length ≤ n := by
  obtain ⟨ks, h1, h2, h3, h4⟩ := hg
  have : ks.Perm (keysOf n g) := (List.perm_ext_iff_of_nodup h2 ((upN_lt n).imp (fun h => by omega) |>.filter _)).mpr fun x => by
    rw [h3, List.mem_filter, upN_mem, decide_eq_true_eq]
    exact ⟨fun z => ⟨hb x z, z⟩, fun z => z.2⟩
  have e := congrArg List.length h1
  rw [List.length_map, List.length_map, this.length_eq] at e
  have : (keysOf n g).length ≤ (upN n).length := List.length_filter_le ..
  rw [show (upN n).length = n by unfold upN; rw [List.length_map, List.length_range]] at this
  omega
theorem keysOf_mem {n : Nat} {g : Int → Int} {f : Int} : f ∈ keysOf n g ↔ (0 ≤ f ∧ f < n) ∧ g f ≠ 0 := by
  unfold keysOf
  rw [List.mem_filter, upN_mem, decide_eq_true_eq]
theorem keysOf_nodup {n : Nat} {g : Int → Int} : (keysOf n g).Nodup := ((upN_lt n).imp (fun h => by omega) : (upN n).Pairwise (· ≠ ·)).filter _
theorem sum_one {g : Int → Int} {f : Int} : ∀ {l : List Int}, l.Nodup → (l.map fun y => if f = y then g y else 0).sum = if f ∈ l then g f else 0
  | [], _ => by simp
  | y :: l, h => by
    rw [List.nodup_cons] at h
    rw [List.map_cons, List.sum_cons, sum_one h.2]
    by_cases e : f = y
    · subst e
      rw [if_pos rfl, if_neg h.1, if_pos (List.mem_cons_self ..)]
      omega
    · rw [if_neg e, Int.zero_add]
      by_cases hm : f ∈ l
      · rw [if_pos hm, if_pos (List.mem_cons_of_mem _ hm)]
      · rw [if_neg hm, if_neg (fun z => by
          rcases List.mem_cons.mp z with z | z
          · exact e z
          · exact hm z)]
/-- so many found so far may stand -/
def Gat (lot bad k f : Int) : Prop := f ≤ bad ∧ k - f ≤ lot - bad
instance (lot bad k f : Int) : Decidable (Gat lot bad k f) := inferInstanceAs (Decidable (_ ∧ _))
def pre (lot bad k : Int) (g : Int → Int) (f : Int) : Int := if Gat lot bad k f then g f + g (f - 1) else 0
def nx (r : Int × Int) (h : Int → Int) (f : Int) : Int := if word r f = Str.ofString "open" then h f else 0
abbrev Ent := Int × Int × Str × Int
def d4e (e : Ent) : PyData := .tuple [.int e.1, .int e.2.1, .str e.2.2.1, .int e.2.2.2]
def ent1 (lot bad k : Int) (r : Int × Int) (h : Int → Int) (f : Int) : Option Ent := if word r f = Str.ofString "open" then none else some (k, f, word r f, h f * chs (lot - k) (bad - f).toNat)
/-- the endings -/
def ends (lot bad : Int) : Int → (Int → Int) → List (Int × Int) → List Ent
  | _, _, [] => []
  | k, g, r :: rows => (keysOf 25 (pre lot bad k g)).filterMap (ent1 lot bad k r (pre lot bad k g)) ++ ends lot bad (k + 1) (nx r (pre lot bad k g)) rows
def g0 (f : Int) : Int := if f = 0 then 1 else 0
structure Gk (k : Nat) (g : Int → Int) : Prop where
  b : ∀ f, 0 ≤ g f ∧ g f ≤ 2 ^ k
  s : ∀ f, g f ≠ 0 → 0 ≤ f ∧ f ≤ k
theorem Gk.zero : Gk 0 g0 := ⟨fun f => by
  unfold g0
  split <;> decide, fun f h => by
  unfold g0 at h
  split at h
  · omega
  · exact absurd rfl h⟩
theorem Gk.pre {k : Nat} {g : Int → Int} (h : Gk k g) (lot bad c : Int) : Gk (k + 1) (pre lot bad c g) := by
  have e : (2 : Int) ^ (k + 1) = 2 * 2 ^ k := by rw [Int.pow_succ, Int.mul_comm]
  refine ⟨fun f => ?_, fun f hf => ?_⟩
  · have h1 := h.b f
    have h2 := h.b (f - 1)
    unfold My.pre
    rw [e]
    split <;> omega
  · unfold My.pre at hf
    split at hf
    · by_cases z : g f = 0
      · have := h.s (f - 1) (by omega)
        omega
      · have := h.s f z
        omega
    · exact absurd rfl hf
theorem Gk.nx {k : Nat} {h : Int → Int} (g : Gk k h) (r : Int × Int) : Gk k (nx r h) := by
  refine ⟨fun f => ?_, fun f hf => ?_⟩
  · have h1 := g.b f
    unfold My.nx
    split <;> omega
  · unfold My.nx at hf
    split at hf
    · exact g.s f hf
    · exact absurd rfl hf
theorem pow2_24 {k : Nat} (h : k ≤ 24) : (2 : Int) ^ k ≤ 16777216 := by
  have h3 : (2 : Nat) ^ k ≤ 2 ^ 24 := Nat.pow_le_pow_right (by decide) h
  have h4 : ((2 : Nat) ^ k : Int) ≤ ((2 : Nat) ^ 24 : Int) := by exact_mod_cast h3
  exact Int.le_trans h4 (by decide)
/-- what is added up of some keys -/
def sm (g : Int → Int) (l : List Int) (f : Int) : Int := (l.map fun y => if f = y then g y else 0).sum + (l.map fun y => if f - 1 = y then g y else 0).sum
def hj (lot bad c : Int) (g : Int → Int) (l : List Int) (y : Int) (j : Nat) (f : Int) : Int := if Gat lot bad c f then sm g l f + (if 1 ≤ j ∧ f = y then g y else 0) + (if 2 ≤ j ∧ f - 1 = y then g y else 0) else 0
theorem sum_nn {g : Int → Int} (hg : ∀ f, 0 ≤ g f) (f : Int) : ∀ l : List Int, 0 ≤ (l.map fun y => if f = y then g y else 0).sum
  | [] => by simp
  | y :: l => by
    have := sum_nn hg f l
    have := hg y
    rw [List.map_cons, List.sum_cons]
    split <;> omega
theorem hj_nn {lot bad c : Int} {g : Int → Int} (hg : ∀ f, 0 ≤ g f) (l : List Int) (y : Int) (j : Nat) (f : Int) : 0 ≤ hj lot bad c g l y j f := by
  unfold hj sm
  have h1 := sum_nn hg f l
  have h2 := sum_nn hg (f - 1) l
  have h3 := hg y
  split
  · split <;> split <;> omega
  · omega
theorem sm_snoc (g : Int → Int) (l : List Int) (y f : Int) : sm g (l ++ [y]) f = sm g l f + (if f = y then g y else 0) + (if f - 1 = y then g y else 0) := by
  unfold sm
  rw [List.map_append, List.map_append, List.sum_append, List.sum_append]
  simp only [List.map_cons, List.map_nil, List.sum_cons, List.sum_nil, Int.add_zero]
  omega
theorem sm_all {g : Int → Int} {k : Nat} (h : Gk k g) (hk : k ≤ 24) (f : Int) : sm g (keysOf 25 g) f = g f + g (f - 1) := by
  have one_ : ∀ f, (if f ∈ keysOf 25 g then g f else 0) = g f := fun f => by
    by_cases z : g f = 0
    · rw [z]; split <;> rfl
    · rw [if_pos (keysOf_mem.mpr ⟨by have := h.s f z; omega, z⟩)]
  unfold sm
  rw [sum_one keysOf_nodup, sum_one keysOf_nodup, one_, one_]
theorem hj_bd {lot bad c : Int} {g : Int → Int} {k : Nat} (h : Gk k g) {l : List Int} {y : Int} (hy : g y ≠ 0) (hl : ∀ z ∈ l, g z ≠ 0) (j : Nat) (f : Int) (hf : hj lot bad c g l y j f ≠ 0) : 0 ≤ f ∧ f ≤ k + 1 := by
  unfold hj sm at hf
  have hs : ∀ f, (l.map fun y => if f = y then g y else 0).sum ≠ 0 → f ∈ l := fun f => by
    clear hf hl
    induction l with
    | nil => intro h; exact absurd rfl h
    | cons z l ih =>
      intro h
      rw [List.map_cons, List.sum_cons] at h
      by_cases e : f = z
      · rw [e]; exact List.mem_cons_self ..
      · rw [if_neg e, Int.zero_add] at h
        exact List.mem_cons_of_mem _ (ih h)
  split at hf
  · by_cases e1 : (l.map fun y => if f = y then g y else 0).sum = 0
    · by_cases e2 : (l.map fun y => if f - 1 = y then g y else 0).sum = 0
      · rw [e1, e2] at hf
        have hyy := h.s y hy
        by_cases e3 : 1 ≤ j ∧ f = y
        · omega
        · rw [if_neg e3] at hf
          by_cases e4 : 2 ≤ j ∧ f - 1 = y
          · omega
          · rw [if_neg e4] at hf
            exact absurd rfl hf
      · have := h.s _ (hl _ (hs _ e2))
        omega
    · have := h.s _ (hl _ (hs _ e1))
      omega
  · exact absurd rfl hf
theorem hj_next {lot bad c : Int} {g : Int → Int} {l : List Int} {y : Int} {m : Nat} (hm : m < 2) (f : Int) : hj lot bad c g l y (m + 1) f = if f = y + (m : Int) ∧ Gat lot bad c f then hj lot bad c g l y m f + g y else hj lot bad c g l y m f := by
  unfold hj
  by_cases hG : Gat lot bad c f
  · simp only [if_pos hG, hG, and_true, if_true]
    obtain rfl | rfl : m = 0 ∨ m = 1 := by omega
    · simp only [show (1 ≤ 0) = False by simp, show (2 ≤ 0) = False by simp, show (1 ≤ 0 + 1) = True by simp, show (2 ≤ 0 + 1) = False by simp, false_and, true_and, if_false]
      by_cases e : f = y
      · rw [if_pos e, if_pos (by omega)]; omega
      · rw [if_neg e, if_neg (by omega)]
    · simp only [show (1 ≤ 1) = True by simp, show (2 ≤ 1) = False by simp, show (1 ≤ 1 + 1) = True by simp, show (2 ≤ 1 + 1) = True by simp, false_and, true_and, if_false]
      by_cases e : f - 1 = y
      · rw [if_pos e, if_pos (show f = y + ((1 : Nat) : Int) by omega)]; omega
      · rw [if_neg e, if_neg (show ¬ f = y + ((1 : Nat) : Int) by omega)]
  · rw [if_neg hG, if_neg hG, if_neg (fun z => hG z.2)]
theorem hj_put {lot bad c : Int} {g : Int → Int} {l : List Int} {y : Int} {m : Nat} (hm : m < 2) (hG : Gat lot bad c (y + m)) (f : Int) : (if f = y + (m : Int) then hj lot bad c g l y m f + g y else hj lot bad c g l y m f) = hj lot bad c g l y (m + 1) f := by
  rw [hj_next hm]
  by_cases e : f = y + (m : Int)
  · subst e
    rw [if_pos rfl, if_pos ⟨rfl, hG⟩]
  · rw [if_neg e, if_neg fun z => e z.1]
theorem hj_skip {lot bad c : Int} {g : Int → Int} {l : List Int} {y : Int} {m : Nat} (hm : m < 2) (hG : ¬ Gat lot bad c (y + m)) (f : Int) : hj lot bad c g l y m f = hj lot bad c g l y (m + 1) f := by
  rw [hj_next hm, if_neg]
  rintro ⟨rfl, h⟩
  exact hG h
theorem hj_zero {lot bad c : Int} {g : Int → Int} {l : List Int} {y y' f : Int} : hj lot bad c g l y 0 f = hj lot bad c g l y' 0 f := by
  unfold hj
  simp only [show (1 ≤ 0) = False by simp, show (2 ≤ 0) = False by simp, false_and, if_false]
theorem hj_two {lot bad c : Int} {g : Int → Int} {l : List Int} {y y' f : Int} : hj lot bad c g l y 2 f = hj lot bad c g (l ++ [y]) y' 0 f := by
  unfold hj
  simp only [show (1 ≤ 0) = False by simp, show (2 ≤ 0) = False by simp, show (1 ≤ 2) = True by simp, show (2 ≤ 2) = True by simp, true_and, false_and, if_false, sm_snoc, Int.add_zero]
theorem hj_all {lot bad c : Int} {g : Int → Int} {k : Nat} (h : Gk k g) (hk : k ≤ 24) {y f : Int} : hj lot bad c g (keysOf 25 g) y 0 f = pre lot bad c g f := by
  unfold hj pre
  simp only [show (1 ≤ 0) = False by simp, show (2 ≤ 0) = False by simp, false_and, if_false, Int.add_zero, sm_all h hk]
theorem hj_none {lot bad c : Int} {g : Int → Int} {y f : Int} : (0 : Int) = hj lot bad c g [] y 0 f := by
  unfold hj sm
  simp
theorem tp_rs {H : Hp} {p : Addr} {us : List V} (h : H p = some (.lst us)) : Same (tp H) (rs (· ≠ p) H) := rs_same fun a o ⟨xs, e⟩ z => ⟨fun w => (by
  rw [w, h] at e
  cases e), z⟩
theorem tp_grow {K : PySem.W.Frag} {H H' : Hp} {p q : Addr} {us ws xs : List V} {ds es : List PyData} (hA : DpAll K (tp H) us ds) (s : Same H H') (hp : H' p = some (.lst ws)) (hq : H' q = some (.tup xs)) (he : DpAll K (tp H') xs es) (o : HO) : DpAll K (tp (upd H' p o)) (us ++ [.ref q]) (ds ++ [.tuple es]) := by
  have e1 : Same (tp H') (tp (upd H' p o)) := tp_upd fun xs z => by rw [hp] at z; cases z
  exact (hA.same ((tp_of s).trans e1)).snoc ((Dp.tup (.of (tp_at hq)) he).same e1)
def sp_Looks_endings (K : PySem.W.Frag) (mg : Str → Option Value) : Sp := fun vs H Q E => match vs with | [.ref x, v, w] => ∃ rows, LK K mg H x rows ∧ ((BadLot K H rows.length v w ∧ E (.ref (cA mg "NoLot")) none H) ∨ ∃ lot bad, Lot rows.length v w lot bad ∧ ∀ p us H', H p = none → Same H H' → H' p = some (.lst us) → DpAll K (rs (· ≠ p) H') us ((ends lot bad 1 g0 rows).map d4e) → Q (.ref p) H') | _ => False
theorem c_Looks_endings (T : Txt K mg) : MetX P w K mg base 3 (cA mg "Looks") "endings" (sp_Looks_endings K mg) := by
  refine MethAt.metX T.k_Looks T.d_Looks_endings (k := 2) sc_Looks_endings (by intro vs H Q E h; unfold sp_Looks_endings at h; split at h <;> first | rfl | exact h.elim) fun f cdv A outer s H vs Q E hr h => ?_
  refine ⟨_, (pss_cons (ps_expr (pe_xMt (c_Looks_need_lot T) hr (by decide) (fun σ => passAt (takes_of rfl rfl rfl rfl) σ) (pv 0) (pa_cons (pv 1) (pa_cons (pv 2) pa_nil))))
    (pss_cons (ps_set (i := 3) sc_Looks_endings.nd rfl (.inl rfl) (pe_lst pa_nil))
    (pss_cons (ps_set (i := 4) sc_Looks_endings.nd rfl (.inl rfl) (pe_disp (pps_cons pe_int pe_int pps_nil) (by rfl) (by rfl) (fun z => by cases z) (by decide)))
    (pss_cons (ps_for (passes_of rfl) rfl (pi_range2 (by rfl) T.n_range (pa_cons pe_int (pa_cons (pe_op op_addA (pe_callB call_lenA (by rfl) T.n_len (by decide +kernel) (pa_cons (pe_fld (pv 0) rfl) pa_nil)) pe_int) pa_nil))) (pg_name (i := 5) sc_Looks_endings.nd rfl (.inl rfl))
    (pss_cons (ps_set (i := 6) sc_Looks_endings.nd rfl (.inl rfl) pe_dnewK)
    (pss_cons (ps_for (passes_of rfl) rfl (pi_list (pe_callB (cr_sortDI rfl) (by rfl) T.n_sorted (by decide +kernel) (pa_cons (pv 4) pa_nil))) (pg_name (i := 7) sc_Looks_endings.nd rfl (.inl rfl))
    (pss_one (ps_for (passes_of rfl) rfl (pi_tup (pe_tup (pa_cons pe_int (pa_cons pe_int pa_nil)))) (pg_name (i := 8) sc_Looks_endings.nd rfl (.inl rfl))
    (pss_one (ps_if (PW.pt (pw_and (pt_cmpR op_leA (pe_op op_addA (pv 7) (pv 8)) (pv 2) (nomark _)) (pw_and1 (pt_cmpR op_leA (pe_op op_sub (pe_op op_sub (pv 5) (pv 7)) (pv 8)) (pe_op op_sub (pv 1) (pv 2)) (nomark _)))))
    (pss_one (ps_dput (hu_of hr) (pv 6) (pe_op op_addA (pv 7) (pv 8)) (pe_op op_addA (pe_dget2 (hu_of hr) (pv 6) (pe_op op_addA (pv 7) (pv 8)) pe_int ⟨rfl, rfl, rfl, rfl⟩) (pe_dget (hu_of hr) (pv 4) (pv 7) (fun _ _ => rfl))) rfl))
    pss_nil)))))
    (pss_cons (ps_set (i := 4) sc_Looks_endings.nd rfl (.inl rfl) pe_dnewK)
    (pss_one (ps_for (passes_of rfl) rfl (pi_list (pe_callB (cr_sortDI rfl) (by rfl) T.n_sorted (by decide +kernel) (pa_cons (pv 6) pa_nil))) (pg_name (i := 7) sc_Looks_endings.nd rfl (.inl rfl))
    (pss_cons (ps_set (i := 9) sc_Looks_endings.nd rfl (.inl rfl) (pe_mt (c_Looks_word_at T) hr (by decide) (pv 0) (pa_cons (pv 5) (pa_cons (pv 7) pa_nil))))
    (pss_one (ps_if (pt_cmpR (op_eqA hr) (pv 9) pe_str (nomark _))
    (pss_one (ps_dput (hu_of hr) (pv 4) (pv 7) (pe_dget (hu_of hr) (pv 6) (pv 7) (fun _ _ => rfl)) rfl))
    (pss_one (ps_expr (pe_bm PySem.F.plainAttrs_list PySem.F.slot_list_append PySem.F.type_list_append mt_append (pv 3) (pa_cons (pe_tup (pa_cons (pv 5) (pa_cons (pv 7) (pa_cons (pv 9) (pa_cons (pe_op op_mulA (pe_dget (hu_of hr) (pv 6) (pv 7) (fun _ _ => rfl)) (pe_c (c_sets_of T) hr (by decide) (by rfl) (pa_cons (pe_op op_sub (pv 1) (pv 5)) (pa_cons (pe_op op_sub (pv 2) (pv 7)) pa_nil)))) pa_nil))))) pa_nil)))))))))))))
    (pss_one (ps_ret (pv 3))))))), ?_⟩
  try simp only [cxOf_K, cxOf_K', cxOf_mg, cxOf_mg']
  unfold sp_Looks_endings at h
  split at h
  case h_2 => exact h.elim
  rename_i x v w
  rw [show L2.start ["self", "lot", "bad", "told", "ways", "looked", "further", "found", "more", "word"] [V.ref x, v, w] = [some (V.ref x), some (v), some (w), none, none, none, none, none, none, none] from rfl]
  obtain ⟨rows, hx, h⟩ := h
  rcases h with ⟨hb, q⟩ | ⟨lot, bad, hlot, q⟩
  · obtain ⟨dx, p, us, h1, h2, h3, h4⟩ := hx
    walk_at "sts"
    refine L_methv h1 rfl ?_
    walk_at "sts"
    refine ⟨rows, ⟨dx, p, us, h1, h2, h3, h4⟩, .inl ⟨hb, ?_⟩⟩
    exact q
  obtain ⟨dx, p, us, h1, h2, h3, ho⟩ := hx
  have hx : LK K mg H x rows := ⟨dx, p, us, h1, h2, h3, ho⟩
  have hlot' := hlot
  obtain ⟨rfl, rfl, l0, l1, b0, b1⟩ := hlot
  have hul := h3.len
  rw [List.length_map] at hul
  have hrl := ho.len
  walk_at "sts"
  refine L_methv h1 rfl ?_
  walk_at "sts"
  refine ⟨rows, hx, .inr ⟨lot, bad, hlot', ?_⟩⟩
  walk_at "sts"
  walk_at "nw"
  rename_i pt hpt H1 s1 e1
  walk_at "sts"
  intro pw hpw
  walk_at "sts"
  refine ⟨upd_same, [(Sum.inl 0, .int 1)], rfl, by simp, ?_⟩
  rw [show mergeK [] [((Sum.inl 0 : Key), V.int 1)] = [(Sum.inl 0, V.int 1)] from rfl]
  rw [L2.upd_upd]
  have s2 := same_new (o := .dK [(Sum.inl 0, .int 1)]) hpw
  have e2 : (upd H1 pw (.dK [(Sum.inl 0, .int 1)])) pw = _ := upd_same
  generalize upd H1 pw (.dK [(Sum.inl 0, .int 1)]) = H2 at s2 e2
  have hd0 : DGr [(Sum.inl 0, .int 1)] g0 := DGr.one (by decide)
  have npw : pw ≠ pt := ne_new hpw ⟨_, e1⟩
  walk_at "sts"
  refine L_fldv ((s1.trans s2) _ _ h1) T.k_Looks T.na_Looks_looks rfl ?_
  walk_at "sts"
  refine L_lenL (.of ((s1.trans s2) _ _ h2)) ?_
  walk_at "sts"
  rw [hul]
  refine L_r2 (by omega) ?_
  rw [show ((rows.length : Int) + 1 - 1).toNat = rows.length by omega]
  refine f_range (fun i σ' H' => ∃ (us' : List V) (pw' : Addr) (kvs : List (Key × V)) (g : Int → Int) (v5 v6 v7 v8 v9 : Option V) (pr : List Ent), σ' = [some (.ref x), some (.int lot), some (.int bad), some (.ref pt), some (.ref pw'), v5, v6, v7, v8, v9] ∧ Same H H' ∧ H' pt = some (.lst us') ∧ DpAll K (tp H') us' (pr.map d4e) ∧ us'.length ≤ 25 * i ∧ H' pw' = some (.dK kvs) ∧ DGr kvs g ∧ Gk i g ∧ ends lot bad 1 g0 rows = pr ++ ends lot bad (1 + (i : Int)) g (rows.drop i)) ⟨_, pw, _, g0, _, _, _, _, _, [], rfl, s1.trans s2, s2 _ _ e1, .nil, Nat.le_refl _, e2, hd0, Gk.zero, by rw [List.drop_zero, List.nil_append]; rfl⟩ ?_ ?_
  · rintro i σ' H3 hi ⟨us', pw', kvs, g, v5, v6, v7, v8, v9, pr, rfl, s3, e3, hA3, hl3, e4, hd, hgk, hends⟩
    walk_at "sts"
    intro pf hpf
    generalize hg4 : upd H3 pf (.dK []) = H4
    have s4 := same_newE hg4 hpf
    have e5 : H4 pf = some (.dK []) := upd_at hg4
    clear hg4
    have npf : pf ≠ pt := ne_new hpf ⟨_, e3⟩
    have npf' : pf ≠ pw' := ne_new hpf ⟨_, e4⟩
    walk_at "sts"
    refine L_sortDI (n := 25) (by decide) (s4 _ _ e4) hd (fun f hf => by have := hgk.s f hf; omega) ?_
    walk_at "nwp"
    rename_i pl hpl H5 s5 e6
    have npl : pl ≠ pf := ne_new hpl ⟨_, e5⟩
    walk_at "sts"
    refine L_rl (.of e6) ?_
    refine f_it walk_list (fun j σ' H' => ∃ (kv2 : List (Key × V)) (w7 w8 w9 : Option V), σ' = [some (.ref x), some (.int lot), some (.int bad), some (.ref pt), some (.ref pw'), some (.int (1 + (i : Int))), some (.ref pf), w7, w8, w9] ∧ Same H3 H' ∧ H' pl = some (.lst ((keysOf 25 g).map V.int)) ∧ H' pf = some (.dK kv2) ∧ DGr kv2 (hj lot bad (1 + (i : Int)) g ((keysOf 25 g).take j) 0 0)) ⟨_, _, _, _, rfl, s4.trans s5, e6, s5 _ _ e5, DGr.nil.congr fun f => by rw [List.take_zero]; exact hj_none⟩ (fun _ _ H' _ ⟨_, _, _, _, _, _, h, _⟩ => .of h) ?_ ?_
    · rintro j x1 σ' H6 H6' hjl ⟨kv2, w7, w8, w9, rfl, s6, el6, ef6, hd6⟩ ⟨rfl, hx1⟩
      rw [List.getElem?_map] at hx1
      obtain ⟨y, hy, rfl⟩ := Option.map_eq_some_iff.mp hx1
      have hym := List.mem_of_getElem? hy
      have hgy := (keysOf_mem.mp hym).2
      have hlz : ∀ z ∈ (keysOf 25 g).take j, g z ≠ 0 := fun z hz => (keysOf_mem.mp (List.mem_of_mem_take hz)).2
      walk_at "sts"
      walk_at "nw"
      rename_i p7 hp7 H7 s7 e7
      walk_at "sts"
      refine L_rt (.of e7) ?_
      refine f_it walk_tup (fun m σ' H' => ∃ (kv3 : List (Key × V)) (w8 : Option V), σ' = [some (.ref x), some (.int lot), some (.int bad), some (.ref pt), some (.ref pw'), some (.int (1 + (i : Int))), some (.ref pf), some (.int y), w8, w9] ∧ Same H3 H' ∧ H' pl = some (.lst ((keysOf 25 g).map V.int)) ∧ H' p7 = some (.tup [.int 0, .int 1]) ∧ H' pf = some (.dK kv3) ∧ DGr kv3 (hj lot bad (1 + (i : Int)) g ((keysOf 25 g).take j) y m)) ⟨_, _, rfl, s6.trans s7, s7 _ _ el6, e7, s7 _ _ ef6, hd6.congr fun f => hj_zero⟩ (fun _ _ H' _ ⟨_, _, _, _, _, h, _⟩ => .of h) ?_ ?_
      · rintro m x2 σ' H8 H8' hm ⟨kv3, w8, rfl, s8, el8, e78, ef8, hd8⟩ ⟨rfl, hx2⟩
        replace hm : m < 2 := hm
        have hx2' : x2 = .int (m : Int) := by
          obtain rfl | rfl : m = 0 ∨ m = 1 := by omega
          · cases hx2; rfl
          · cases hx2; rfl
        subst hx2'
        have npf7 : p7 ≠ pf := ne_new hp7 ⟨_, ef6⟩
        have hskip : ¬ Gat lot bad (1 + (i : Int)) (y + m) → ∃ (kv3' : List (Key × V)) (w8 : Option V), [some (V.ref x), some (V.int lot), some (V.int bad), some (V.ref pt), some (V.ref pw'), some (V.int (1 + (i : Int))), some (V.ref pf), some (V.int y), some (V.int (m : Int)), w9] = [some (.ref x), some (.int lot), some (.int bad), some (.ref pt), some (.ref pw'), some (.int (1 + (i : Int))), some (.ref pf), some (.int y), w8, w9] ∧ Same H3 H8' ∧ H8' pl = some (.lst ((keysOf 25 g).map V.int)) ∧ H8' p7 = some (.tup [.int 0, .int 1]) ∧ H8' pf = some (.dK kv3') ∧ DGr kv3' (hj lot bad (1 + (i : Int)) g ((keysOf 25 g).take j) y (m + 1)) := fun hG => ⟨_, _, rfl, s8, el8, e78, ef8, hd8.congr (hj_skip hm hG)⟩
        walk_at "sts"
        refine L_d (fun c1 => ?_) (fun c1 => ?_)
        · walk_at "sts"
          refine L_d (fun c2 => ?_) (fun c2 => ?_)
          · have hG : Gat lot bad (1 + (i : Int)) (y + m) := ⟨c1, by omega⟩
            walk_at "sts"
            refine ⟨pf, rfl, isD_at' ef8, ?_⟩
            walk_at "sts"
            refine ⟨_, DGet.k (k := .inl (y + m)) ef8, ?_⟩
            rw [hd8.getD]
            walk_at "sts"
            obtain ⟨ks, k1, k2, k3, k4⟩ := hd
            refine L_dgetv (k := .inl y) rfl (s8 _ _ e4) (k4 y hgy) ?_
            walk_at "sts"
            have hlen := My.DGr.len hd8 (n := 25) fun f hf => by have := hj_bd hgk hgy hlz m f hf; omega
            refine L_dputv (k := .inl (y + m)) rfl ef8 (by omega) ?_
            have hnn := hj_nn (fun f => (hgk.b f).1) ((keysOf 25 g).take j) y m (y + m) (lot := lot) (bad := bad) (c := 1 + (i : Int))
            have hgn := (hgk.b y).1
            refine ⟨_, _, rfl, same_mut s8 hpf, by rw [upd_ne npl]; exact el8, by rw [upd_ne npf7]; exact e78, upd_same, ?_⟩
            refine (hd8.put (y + m) (hj lot bad (1 + (i : Int)) g ((keysOf 25 g).take j) y m (y + m) + g y) (by omega)).congr fun f => ?_
            rw [← hj_put hm hG]
            by_cases e : f = y + (m : Int)
            · rw [if_pos e, if_pos e, e]
            · rw [if_neg e, if_neg e]
          · walk_at "sts"
            exact hskip fun z => c2 (by have := z.2; omega)
        · walk_at "sts"
          exact hskip fun z => c1 z.1
      · rintro σ' H8 ⟨kv3, w8', rfl, s8, el8, e78, ef8, hd8⟩
        walk_at "sts"
        refine ⟨_, _, _, _, rfl, s8, el8, ef8, hd8.congr fun f => ?_⟩
        rw [List.take_succ, hy]
        exact hj_two
    · rintro σ' H6 ⟨kv2, w7, w8, w9, rfl, s6, el6, ef6, hd6⟩
      rw [List.length_map, List.take_of_length_le (Nat.le_refl _)] at hd6
      replace hd6 := hd6.congr fun f => hj_all (y := 0) hgk (by omega)
      clear e6 e5 s5 s4 el6 npl hpl npf npf'
      have hgk' := hgk.pre lot bad (1 + (i : Int))
      walk_at "sts"
      intro pw2 hpw2
      generalize hg7 : upd H6 pw2 (.dK []) = H7
      have s7 := same_newE hg7 hpw2
      have e7 : H7 pw2 = some (.dK []) := upd_at hg7
      clear hg7
      have s37 := s6.trans s7
      generalize hhh : pre lot bad (1 + (i : Int)) g = h at hd6 hgk'
      have npw2f : pw2 ≠ pf := ne_new hpw2 ⟨_, ef6⟩
      have npw2t : pw2 ≠ pt := ne_new hpw2 ⟨_, s6 _ _ e3⟩
      have npft : pf ≠ pt := ne_new hpf ⟨_, e3⟩
      walk_at "sts"
      refine L_sortDI (n := 25) (by decide) (s7 _ _ ef6) hd6 (fun f hf => by have := hgk'.s f hf; omega) ?_
      walk_at "nwp"
      rename_i pl2 hpl2 H8 s8 e8
      have npl2w : pl2 ≠ pw2 := ne_new hpl2 ⟨_, e7⟩
      have npl2t : pl2 ≠ pt := ne_new hpl2 ⟨_, s37 _ _ e3⟩
      have s08 : Same H H8 := s3.trans (s37.trans s8)
      obtain ⟨r, hr⟩ : ∃ r, rows[i]? = some r := ⟨_, List.getElem?_eq_getElem hi⟩
      have hdrop : rows.drop i = r :: rows.drop (i + 1) := by
        obtain ⟨hlt, e⟩ := List.getElem?_eq_some_iff.mp hr
        rw [← e]
        exact List.drop_eq_getElem_cons hlt
      rw [hdrop, ends, hhh] at hends
      have hkl : (keysOf 25 h).length ≤ 25 := by
        refine Nat.le_trans (List.length_filter_le ..) ?_
        unfold upN
        rw [List.length_map, List.length_range]
        exact Nat.le_refl _
      walk_at "sts"
      refine L_rl (.of e8) ?_
      refine f_it walk_list (fun j σ' H' => ∃ (us2 : List V) (kv3 : List (Key × V)) (w7 w8 w9 : Option V), σ' = [some (.ref x), some (.int lot), some (.int bad), some (.ref pt), some (.ref pw2), some (.int (1 + (i : Int))), some (.ref pf), w7, w8, w9] ∧ Same H H' ∧ H' pl2 = some (.lst ((keysOf 25 h).map V.int)) ∧ H' pf = some (.dK kv2) ∧ H' pt = some (.lst us2) ∧ DpAll K (tp H') us2 ((pr ++ ((keysOf 25 h).take j).filterMap (ent1 lot bad (1 + (i : Int)) r h)).map d4e) ∧ us2.length ≤ 25 * i + j ∧ H' pw2 = some (.dK kv3) ∧ DGr kv3 (fun f => if f ∈ (keysOf 25 h).take j then nx r h f else 0)) ⟨us', [], _, _, _, rfl, s08, e8, (s7.trans s8) _ _ ef6, (s37.trans s8) _ _ e3, ?_, by omega, s8 _ _ e7, DGr.nil.congr fun f => by rw [List.take_zero, if_neg (by simp)]⟩ (fun _ _ H' _ ⟨_, _, _, _, _, _, _, h, _⟩ => .of h) ?_ ?_
      · rw [List.take_zero, List.filterMap_nil, List.append_nil]
        exact hA3.same (tp_of (s37.trans s8))
      · rintro j x1 σ' H9 H9' hjl ⟨us2, kv3, w7, w8, w9, rfl, s9, el9, ef9, et9, hA9, hl9, ew9, hd9⟩ ⟨rfl, hx1⟩
        rw [List.length_map] at hjl
        rw [List.getElem?_map] at hx1
        obtain ⟨y, hy, rfl⟩ := Option.map_eq_some_iff.mp hx1
        have hym := keysOf_mem.mp (List.mem_of_getElem? hy)
        have hhy := hym.2
        have htk : (keysOf 25 h).take (j + 1) = (keysOf 25 h).take j ++ [y] := by rw [List.take_succ, hy]; rfl
        have hb := (hgk'.b y)
        have hp24 := pow2_24 (show i + 1 ≤ 24 by omega)
        walk_at "sts"
        refine L_methv (s9 _ _ h1) rfl ?_
        walk_at "sts"
        refine ⟨rows, r, hx.same s9, by omega, by rw [show ((1 : Int) + i - 1).toNat = i by omega]; exact hr, ?_⟩
        walk_at "sts"
        refine L_d (fun c1 => ?_) (fun c1 => ?_)
        · obtain ⟨ks, k1, k2, k3, k4⟩ := hd6
          walk_at "sts"
          refine L_dgetv (k := .inl y) rfl ef9 (k4 y hhy) ?_
          walk_at "sts"
          have hlen := My.DGr.len hd9 (n := 25) fun f hf => by
            by_cases hm : f ∈ (keysOf 25 h).take j
            · exact (keysOf_mem.mp (List.mem_of_mem_take hm)).1
            · rw [if_neg hm] at hf
              exact absurd rfl hf
          refine L_dputv (k := .inl y) rfl ew9 (by omega) ?_
          refine ⟨us2, _, _, _, _, rfl, same_mut s9 (s3.free (s6.free hpw2)), by rw [upd_ne npl2w]; exact el9, by rw [upd_ne npw2f.symm]; exact ef9, by rw [upd_ne npw2t.symm]; exact et9, ?_, by omega, upd_same, ?_⟩
          · rw [htk, List.filterMap_append, show [y].filterMap (ent1 lot bad (1 + (i : Int)) r h) = [] by
              rw [List.filterMap_cons, show ent1 lot bad (1 + (i : Int)) r h y = none from if_pos c1]; rfl, List.append_nil]
            exact hA9.same (tp_upd fun xs z => by rw [ew9] at z; cases z)
          · refine (hd9.put y (h y) hhy).congr fun f => ?_
            by_cases e : f = y
            · subst e
              rw [if_pos rfl, if_pos (by rw [htk]; simp)]
              unfold nx
              rw [if_pos c1]
            · rw [if_neg e]
              by_cases hm : f ∈ (keysOf 25 h).take j
              · rw [if_pos hm, if_pos (by rw [htk]; exact List.mem_append_left _ hm)]
              · rw [if_neg hm, if_neg (by rw [htk]; simp [hm, e])]
        · have hG : Gat lot bad (1 + (i : Int)) y := by
            rw [← hhh] at hhy
            unfold pre at hhy
            by_cases hG : Gat lot bad (1 + (i : Int)) y
            · exact hG
            · rw [if_neg hG] at hhy
              exact absurd rfl hhy
          have hG1 := hG.1
          have hG2 := hG.2
          obtain ⟨ks, k1, k2, k3, k4⟩ := id hd6
          have hc := chs_b (many := lot - (1 + (i : Int))) (by omega) (by omega) (k := (bad - y).toNat) (by omega)
          have p24 := pow24 (show (bad - y).toNat ≤ 24 by omega)
          walk_at "sts"
          refine L_tyL (.of et9) ?_
          walk_at "sts"
          refine L_dgetv (k := .inl y) rfl ef9 (k4 y hhy) ?_
          walk_at "sts"
          refine ⟨by omega, by omega, by omega, ?_⟩
          walk_at "sts"
          refine L_mulI ((bd_64 (by omega)).cmul (bd_128 (by omega))) ?_
          walk_at "sts"
          walk_at "nw"
          rename_i p10 hp10 H10 s10 e10
          walk_at "sts"
          refine L_app (s10 _ _ et9) (sz_lt (by omega)) ?_
          walk_at "sts"
          refine ⟨_, kv3, _, _, _, rfl, same_mut (s9.trans s10) hpt, by rw [upd_ne npl2t]; exact s10 _ _ el9, by rw [upd_ne npft]; exact s10 _ _ ef9, upd_same, ?_, by rw [List.length_append, List.length_singleton]; omega, by rw [upd_ne npw2t]; exact s10 _ _ ew9, ?_⟩
          · rw [htk, List.filterMap_append, show [y].filterMap (ent1 lot bad (1 + (i : Int)) r h) = [(1 + (i : Int), y, word r y, h y * chs (lot - (1 + (i : Int))) (bad - y).toNat)] by
              rw [List.filterMap_cons, show ent1 lot bad (1 + (i : Int)) r h y = some (1 + (i : Int), y, word r y, h y * chs (lot - (1 + (i : Int))) (bad - y).toNat) from if_neg c1]; rfl, ← List.append_assoc, List.map_append]
            exact tp_grow hA9 s10 (s10 _ _ et9) e10 (by walk_at "dpa") _
          · refine hd9.congr fun f => ?_
            by_cases e : f = y
            · subst e
              rw [htk, if_pos (show f ∈ (keysOf 25 h).take j ++ [f] by simp)]
              unfold nx
              rw [if_neg c1]
              split <;> rfl
            · by_cases hm : f ∈ (keysOf 25 h).take j
              · rw [if_pos hm, if_pos (by rw [htk]; exact List.mem_append_left _ hm)]
              · rw [if_neg hm, if_neg (by rw [htk]; simp [hm, e])]
      · rintro σ' H9 ⟨us2, kv3, w7, w8, w9, rfl, s9, el9, ef9, et9, hA9, hl9, ew9, hd9⟩
        rw [List.length_map] at hA9 hl9 hd9
        rw [List.take_of_length_le (Nat.le_refl _)] at hA9 hd9
        refine ⟨us2, pw2, kv3, nx r h, _, _, _, _, _, _, rfl, s9, et9, hA9, by omega, ew9, hd9.congr fun f => ?_, hgk'.nx r, ?_⟩
        · by_cases hm : f ∈ keysOf 25 h
          · rw [if_pos hm]
          · rw [if_neg hm]
            have z : h f = 0 := by
              by_cases z : h f = 0
              · exact z
              · exact absurd (keysOf_mem.mpr ⟨by have := hgk'.s f z; omega, z⟩) hm
            unfold nx
            rw [z]
            split <;> rfl
        · rw [hends, List.append_assoc, show (1 : Int) + i + 1 = 1 + ((i + 1 : Nat) : Int) by omega]
  · rintro σ' H3 ⟨us', pw', kvs, g, v5, v6, v7, v8, v9, pr, rfl, s3, e3, hA3, hl3, e4, hd, hgk, hends⟩
    rw [List.drop_of_length_le (Nat.le_refl _), ends, List.append_nil] at hends
    walk_at "sts"
    exact q pt us' H3 hpt s3 e3 (by rw [hends]; exact hA3.same (tp_rs e3))
def gc (a b : Int) : Int := (Int.gcd a b : Nat)
theorem gc_step {a b : Int} (h : 0 < b) : gc b (a % b) = gc a b := by
  have e : Int.gcd (a % b) b = Int.gcd a b := by
    refine Int.gcd_left_eq_iff.mpr fun c hc => ?_
    have d : c ∣ b * (a / b) := Int.dvd_trans hc (Int.dvd_mul_right b (a / b))
    have e2 : a % b + b * (a / b) = a := Int.emod_add_mul_ediv a b
    constructor
    · intro h; rw [← e2]; exact Int.dvd_add h d
    · intro h
      have : a % b = a - b * (a / b) := by omega
      rw [this]; exact Int.dvd_sub h d
  unfold gc
  rw [Int.gcd_comm, e]
theorem gc_zero {a : Int} : (if a < 0 then -a else a) = gc a 0 := by
  unfold gc
  rw [Int.gcd_zero_right]
  omega
theorem gc_pos {a b : Int} (h : 0 < b) : 0 < gc a b := by
  unfold gc
  have : 0 < Int.gcd a b := Int.gcd_pos_of_ne_zero_right a (by omega)
  omega
theorem gc_le {a b : Int} (h : 0 < b) : gc a b ≤ b := Int.gcd_le_right a h
theorem gc_dl {a b : Int} : gc a b ∣ a := Int.gcd_dvd_left ..
theorem gc_dr {a b : Int} : gc a b ∣ b := Int.gcd_dvd_right ..
/-- lowest terms, for a bottom from 1 on -/
def low (t b : Int) : Int × Int := (t / gc t b, b / gc t b)
theorem low_pos {t b : Int} (h : 0 < b) : 1 ≤ (low t b).2 := by
  have g := gc_pos (a := t) h
  have := Int.ediv_pos_of_pos_of_dvd h (Int.le_of_lt g) (gc_dr (a := t) (b := b))
  show 1 ≤ b / gc t b
  omega
theorem low_gc {t b : Int} (h : 0 < b) : gc (low t b).1 (low t b).2 = 1 := by
  have g := gc_pos (a := t) h
  unfold low gc
  have hh : 0 < Int.gcd t b := Int.gcd_pos_of_ne_zero_right t (by omega)
  have := Int.gcd_ediv_gcd_ediv_gcd (i := t) (j := b) hh
  show ((Int.gcd (t / (Int.gcd t b : Nat)) (b / (Int.gcd t b : Nat)) : Nat) : Int) = 1
  rw [this]; rfl
theorem low_eq {t b : Int} (h : 0 < b) : (low t b).1 * b = t * (low t b).2 := by
  have g := gc_pos (a := t) h
  obtain ⟨u, hu⟩ := gc_dl (a := t) (b := b)
  obtain ⟨v, hv⟩ := gc_dr (a := t) (b := b)
  have e1 : t / gc t b = u := Int.ediv_eq_of_eq_mul_right (by omega) hu
  have e2 : b / gc t b = v := Int.ediv_eq_of_eq_mul_right (by omega) hv
  show t / gc t b * b = t * (b / gc t b)
  rw [e1, e2]
  calc u * b = u * (gc t b * v) := by rw [← hv]
    _ = (gc t b * u) * v := by rw [← Int.mul_assoc, Int.mul_comm u]
    _ = t * v := by rw [← hu]
theorem low_bd {n : Nat} {t b : Int} (h : 0 < b) (ht : Bd n t) (hb : Bd n b) : Bd n (low t b).1 ∧ Bd n (low t b).2 := by
  have g := gc_pos (a := t) h
  constructor
  · exact Nat.lt_of_le_of_lt (Int.natAbs_ediv_le_natAbs t _) ht
  · exact Nat.lt_of_le_of_lt (Int.natAbs_ediv_le_natAbs b _) hb
/-- what share tells -/
def shr (t b : Int) : Int × Int := if b < 0 then low (0 - t) (0 - b) else low t b
theorem shr_ok {t b : Int} (h : b ≠ 0) : 1 ≤ (shr t b).2 ∧ gc (shr t b).1 (shr t b).2 = 1 ∧ (shr t b).1 * b = t * (shr t b).2 := by
  unfold shr
  split
  · have hb : 0 < 0 - b := by omega
    refine ⟨low_pos hb, low_gc hb, ?_⟩
    have e := low_eq (t := 0 - t) hb
    rw [Int.mul_sub, Int.mul_zero, Int.sub_mul, Int.zero_mul] at e
    omega
  · have hb : 0 < b := by omega
    exact ⟨low_pos hb, low_gc hb, low_eq hb⟩
theorem shr_bd {n : Nat} {t b : Int} (h : b ≠ 0) (ht : Bd n t) (hb : Bd n b) : Bd n (shr t b).1 ∧ Bd n (shr t b).2 := by
  have e : ∀ z : Int, 0 - z = -z := fun z => by omega
  unfold shr
  split
  · rw [e, e]; exact low_bd (by omega) ht.neg hb.neg
  · exact low_bd (by omega) ht hb
theorem across {p q t b x y : Int} (hb : b ≠ 0) (e : p * b = t * q) (d : t * y = x * b) : p * y = x * q := by
  refine Int.eq_of_mul_eq_mul_right hb ?_
  calc p * y * b = (p * b) * y := by rw [Int.mul_assoc, Int.mul_comm y b, Int.mul_assoc]
    _ = (t * y) * q := by rw [e, Int.mul_assoc, Int.mul_comm q y, ← Int.mul_assoc]
    _ = x * q * b := by rw [d, Int.mul_assoc, Int.mul_comm b q, ← Int.mul_assoc]
def sp_divisor (K : PySem.W.Frag) (mg : Str → Option Value) : Sp := fun vs H Q _ => match vs with | [.int a, .int b] => 0 ≤ b ∧ Q (.int (gc a b)) H | _ => False
theorem q_divisor {H : Hp} {Q : VK} {E : XK} {a : Int} {b : Int} (q : 0 ≤ b ∧ Q (.int (gc a b)) H) : sp_divisor K mg [.int a, .int b] H Q E := q
local macro_rules | `(tactic| walk_at "op") => `(tactic| with_reducible refine q_divisor ?_)
theorem c_divisor (T : Txt K mg) : Cal P w K mg base 1 "divisor" (sp_divisor K mg) := by
  refine T.d_divisor.cal (k := 0) sc_divisor (by intro vs H Q E h; unfold sp_divisor at h; split at h <;> first | rfl | exact h.elim) fun f cdv A outer s H vs Q E hr h => ?_
  refine ⟨_, (pss_cons (ps_while PassesOwn.never (pt_cmpR (op_neA hr) (pv 1) pe_int (nomark _))
    (pss_one (ps_par (i := 0) (j := 1) rfl sc_divisor.nd rfl rfl (by decide) rfl rfl (pa_cons (pv 1) (pa_cons (pe_op op_mod (pv 0) (pv 1)) pa_nil)) (by rfl))))
    (pss_one (ps_ret (pe_callB call_absA (by rfl) T.n_abs (by decide +kernel) (pa_cons (pv 0) pa_nil))))), ?_⟩
  try simp only [cxOf_K, cxOf_K', cxOf_mg, cxOf_mg']
  unfold sp_divisor at h
  split at h
  case h_2 => exact h.elim
  rename_i a b
  rw [show L2.start ["one", "other"] [V.int a, V.int b] = [some (V.int a), some (V.int b)] from rfl]
  obtain ⟨hb, q⟩ := h
  walk_at "sts"
  refine L_while (fun m σ' H' => ∃ x y : Int, σ' = [some (.int x), some (.int y)] ∧ 0 ≤ y ∧ gc x y = gc a b ∧ m = y.toNat ∧ H' = H) ⟨_, a, b, rfl, hb, rfl, rfl, rfl⟩ ?_
  rintro m σ' H' ⟨x, y, rfl, hy, e, rfl, rfl⟩
  walk_at "sts"
  refine L_nd (fun c => ?_) (fun c => ?_)
  · refine L_N ?_
    walk_at "sts"
    refine L_I (by omega) ?_
    walk_at "sts"
    have h1 := Int.emod_nonneg x c
    have h2 := Int.emod_lt_of_pos x (show 0 < y by omega)
    exact ⟨(x % y).toNat, by omega, y, x % y, rfl, h1, (gc_step (by omega)).trans e, rfl, rfl⟩
  · subst c
    walk_at "sts"
    rw [gc_zero, e]
    exact q
def sp_share (K : PySem.W.Frag) (mg : Str → Option Value) : Sp := fun vs H Q _ => match vs with | [.int t, .int b] => b ≠ 0 ∧ Bd 2000 b ∧ NewT H [.int (shr t b).1, .int (shr t b).2] Q | _ => False
theorem q_share {H : Hp} {Q : VK} {E : XK} {t : Int} {b : Int} (q : b ≠ 0 ∧ Bd 2000 b ∧ NewT H [.int (shr t b).1, .int (shr t b).2] Q) : sp_share K mg [.int t, .int b] H Q E := q
local macro_rules | `(tactic| walk_at "op") => `(tactic| with_reducible refine q_share ?_)
theorem c_share (T : Txt K mg) : Cal P w K mg base 2 "share" (sp_share K mg) := by
  refine T.d_share.cal (k := 1) sc_share (by intro vs H Q E h; unfold sp_share at h; split at h <;> first | rfl | exact h.elim) fun f cdv A outer s H vs Q E hr h => ?_
  refine ⟨_, (pss_cons (ps_if (pt_cmpR op_ltA (pv 1) pe_int (nomark _))
    (pss_one (ps_par (i := 0) (j := 1) rfl sc_share.nd rfl rfl (by decide) rfl rfl (pa_cons (pe_op op_sub pe_int (pv 0)) (pa_cons (pe_op op_sub pe_int (pv 1)) pa_nil)) (by rfl)))
    pss_nil)
    (pss_cons (ps_set (i := 2) sc_share.nd rfl (.inl rfl) (pe_c (c_divisor T) hr (by decide) (by rfl) (pa_cons (pv 0) (pa_cons (pv 1) pa_nil))))
    (pss_one (ps_ret (pe_tup (pa_cons (pe_op op_fdivW (pv 0) (pv 2)) (pa_cons (pe_op op_fdivW (pv 1) (pv 2)) pa_nil))))))), ?_⟩
  try simp only [cxOf_K, cxOf_K', cxOf_mg, cxOf_mg']
  unfold sp_share at h
  split at h
  case h_2 => exact h.elim
  rename_i t b
  rw [show L2.start ["top", "bottom", "many"] [V.int t, V.int b] = [some (V.int t), some (V.int b), none] from rfl]
  obtain ⟨hb, hd, q⟩ := h
  have key : ∀ t' b' : Int, 0 < b' → Bd 2000 b' → low t' b' = shr t b → t / 1 = t → CDivW t' (gc t' b') := fun t' b' h0 h1 _ _ => by
    have g := gc_pos (a := t') h0
    have l := gc_le (a := t') h0
    refine Bd.cdiv (n := 2000) ?_ g
    unfold Bd at *
    omega
  walk_at "sts"
  refine L_d (fun c => ?_) (fun c => ?_)
  · walk_at "sts"
    have e : shr t b = low (0 - t) (0 - b) := if_pos c
    have hd' : Bd 2000 (0 - b) := by unfold Bd at *; omega
    refine ⟨by omega, ?_⟩
    walk_at "sts"
    refine L_I (key _ _ (by omega) hd' e.symm (by simp)) ?_
    walk_at "sts"
    refine L_I (key (0 - t) _ (by omega) hd' e.symm (by simp)) ?_
    walk_at "sts"
    rw [e] at q
    exact L_new (sz_dec (by show 2 ≤ 1000000; decide)) q.at
  · walk_at "sts"
    have e : shr t b = low t b := if_neg c
    refine ⟨by omega, ?_⟩
    walk_at "sts"
    refine L_I (key _ _ (by omega) hd e.symm (by simp)) ?_
    walk_at "sts"
    refine L_I (key t _ (by omega) hd e.symm (by simp)) ?_
    walk_at "sts"
    rw [e] at q
    exact L_new (sz_dec (by show 2 ≤ 1000000; decide)) q.at
/-- the ways that are let by; all that were looked at -/
def bySum (l : List Ent) : Int := ((l.filter fun e => decide (e.2.2.1 = Str.ofString "by")).map fun e => e.2.2.2).sum
def lookSum (l : List Ent) : Int := (l.map fun e => e.1 * e.2.2.2).sum
theorem ends_b {lot bad : Int} (l1 : lot ≤ 24) (b0 : 0 ≤ bad) (b1 : bad ≤ lot) : ∀ {rows : List (Int × Int)} {k : Nat} {g : Int → Int}, Gk k g → k + rows.length ≤ 24 → (k : Int) + rows.length ≤ lot → ∀ e ∈ ends lot bad (k + 1) g rows, 1 ≤ e.1 ∧ e.1 ≤ 24 ∧ 0 ≤ e.2.2.2 ∧ Bd 300 e.2.2.2 := by
  intro rows
  induction rows with
  | nil => intro k g _ _ _ e he; cases he
  | cons r rows ih =>
    intro k g hg hk hk2 e he
    rw [List.length_cons] at hk hk2
    rw [ends] at he
    have hg' := hg.pre lot bad ((k : Int) + 1)
    rcases List.mem_append.mp he with he | he
    · obtain ⟨f, hf, h1⟩ := List.mem_filterMap.mp he
      have hf' := (keysOf_mem.mp hf).2
      unfold ent1 at h1
      split at h1
      · cases h1
      · cases h1
        have hG : Gat lot bad ((k : Int) + 1) f := by
          unfold pre at hf'
          by_cases hG : Gat lot bad ((k : Int) + 1) f
          · exact hG
          · rw [if_neg hG] at hf'
            exact absurd rfl hf'
        have g1 := hG.1
        have g2 := hG.2
        have hb := hg'.b f
        have p2 := pow2_24 (show k + 1 ≤ 24 by omega)
        have hc := chs_b (many := lot - ((k : Int) + 1)) (by omega) (by omega) (k := (bad - f).toNat) (by omega)
        have hc2 := (chs_pos (many := lot - ((k : Int) + 1)) (by omega) (k := (bad - f).toNat) (by omega)).2
        refine ⟨by show 1 ≤ (k : Int) + 1; omega, by show (k : Int) + 1 ≤ 24; omega, Int.mul_nonneg hb.1 hc.1, ?_⟩
        exact ((bd_64 (by omega)).mul hc2).mono (by decide)
    · exact ih (hg'.nx r) (by omega) (by omega) e (by rw [show ((k + 1 : Nat) : Int) + 1 = (k : Int) + 1 + 1 by omega]; exact he)
theorem ends_len {lot bad : Int} : ∀ {rows : List (Int × Int)} {k : Int} {g : Int → Int}, (ends lot bad k g rows).length ≤ 25 * rows.length := by
  intro rows
  induction rows with
  | nil => intro k g; exact Nat.le_refl _
  | cons r rows ih =>
    intro k g
    rw [ends, List.length_append, List.length_cons]
    have h1 := ih (k := k + 1) (g := nx r (pre lot bad k g))
    have h2 : ((keysOf 25 (pre lot bad k g)).filterMap (ent1 lot bad k r (pre lot bad k g))).length ≤ 25 := by
      refine Nat.le_trans (List.length_filterMap_le ..) (Nat.le_trans (List.length_filter_le ..) ?_)
      unfold upN
      rw [List.length_map, List.length_range]
      exact Nat.le_refl _
    omega
theorem of_d4e {K : PySem.W.Frag} {H : Hp} {v : V} {e : Ent} (h : Dp K H v (d4e e)) : ∃ a, v = .ref a ∧ SqT K H a [.int e.1, .int e.2.1, .str e.2.2.1, .int e.2.2.2] := by
  obtain ⟨a, x, y, z, w, rfl, h1, h2, h3, h4, h5⟩ := of_t4 h
  rw [of_int h2, of_int h3, of_str h4, of_int h5] at h1
  exact ⟨a, rfl, h1⟩
theorem hit4e {K : PySem.W.Frag} {H : Hp} {us : List V} {es : List Ent} (hA : DpAll K H us (es.map d4e)) {i : Nat} {x : V} (hx : us[i]? = some x) : ∃ e t, es[i]? = some e ∧ x = V.ref t ∧ SqT K H t [.int e.1, .int e.2.1, .str e.2.2.1, .int e.2.2.2] := by
  obtain ⟨d, h1, h2⟩ := hA.of hx
  rw [List.getElem?_map] at h1
  obtain ⟨r, h3, rfl⟩ := Option.map_eq_some_iff.mp h1
  obtain ⟨t, rfl, h4⟩ := of_d4e h2
  exact ⟨r, t, h3, rfl, h4⟩
def sp_Looks_let_by (K : PySem.W.Frag) (mg : Str → Option Value) : Sp := fun vs H Q E => match vs with | [.ref x, v, w] => ∃ rows, LK K mg H x rows ∧ ((BadLot K H rows.length v w ∧ E (.ref (cA mg "NoLot")) none H) ∨ ∃ lot bad, Lot rows.length v w lot bad ∧ ∀ H1, Same H H1 → NewT H1 [.int (shr (bySum (ends lot bad 1 g0 rows)) (chs lot bad.toNat)).1, .int (shr (bySum (ends lot bad 1 g0 rows)) (chs lot bad.toNat)).2] Q) | _ => False
theorem c_Looks_let_by (T : Txt K mg) : MetX P w K mg base 4 (cA mg "Looks") "let_by" (sp_Looks_let_by K mg) := by
  refine MethAt.metX T.k_Looks T.d_Looks_let_by (k := 3) sc_Looks_let_by (by intro vs H Q E h; unfold sp_Looks_let_by at h; split at h <;> first | rfl | exact h.elim) fun f cdv A outer s H vs Q E hr h => ?_
  refine ⟨_, (pss_cons (ps_set (i := 3) sc_Looks_let_by.nd rfl (.inl rfl) (pe_callB (cr_sum rfl) (by rfl) T.n_sum (by decide +kernel) (pa_cons (pe_lc (own := [("looked", 4), ("found", 5), ("word", 6), ("ways", 7)]) (g := (gTup K 4 (gCons (gName 4) (gCons (gName 5) (gCons (gName 6) (gCons (gName 7) gNil)))))) (tt := (tTest (tOp (aEq K) (tVar 6) (tC (.str "by"))))) (te := (tVar 7)) rfl sc_Looks_let_by.nd (pi_list (pe_xMt (c_Looks_endings T) hr (by decide) (fun σ => passAt (takes_of rfl rfl rfl rfl) σ) (pv 0) (pa_cons (pv 1) (pa_cons (pv 2) pa_nil)))) (blkOk_by (N := ["self", "lot", "bad", "many", "looked", "found", "word", "ways"]) (sc := defScope s_Looks_let_by) (by decide +kernel)) (fun _ _ _ _ _ => by exact (pg_tup rfl (pgs_cons (pg_name (i := 4) sc_Looks_let_by.nd rfl (.inl rfl)) (pgs_cons (pg_name (i := 5) sc_Looks_let_by.nd rfl (.inl rfl)) (pgs_cons (pg_name (i := 6) sc_Looks_let_by.nd rfl (.inl rfl)) (pgs_cons (pg_name (i := 7) sc_Looks_let_by.nd rfl (.inl rfl)) pgs_nil)))))) (fun _ _ _ _ _ => by exact pts_one (pt_cmpR (op_eqA hr) (pv 6) pe_str (nomark _))) (fun _ _ _ _ _ => by exact (pv 7))) pa_nil)))
    (pss_one (ps_ret (pe_c (c_share T) hr (by decide) (by rfl) (pa_cons (pv 3) (pa_cons (pe_c (c_sets_of T) hr (by decide) (by rfl) (pa_cons (pv 1) (pa_cons (pv 2) pa_nil))) pa_nil)))))), ?_⟩
  try simp only [cxOf_K, cxOf_K', cxOf_mg, cxOf_mg']
  unfold sp_Looks_let_by at h
  split at h
  case h_2 => exact h.elim
  rename_i x v w
  rw [show L2.start ["self", "lot", "bad", "many", "looked", "found", "word", "ways"] [V.ref x, v, w] = [some (V.ref x), some (v), some (w), none, none, none, none, none] from rfl]
  obtain ⟨rows, hx, h⟩ := h
  rcases h with ⟨hb, q⟩ | ⟨lot, bad, hlot, q⟩
  · obtain ⟨dx, p, us, h1, h2, h3, h4⟩ := hx
    walk_at "sts"
    refine L_methv h1 rfl ?_
    walk_at "sts"
    exact ⟨rows, ⟨dx, p, us, h1, h2, h3, h4⟩, .inl ⟨hb, q⟩⟩
  obtain ⟨dx, p, us, h1, h2, h3, ho⟩ := hx
  have hx : LK K mg H x rows := ⟨dx, p, us, h1, h2, h3, ho⟩
  have hlot' := hlot
  obtain ⟨rfl, rfl, l0, l1, b0, b1⟩ := hlot
  walk_at "sts"
  refine L_methv h1 rfl ?_
  walk_at "sts"
  refine ⟨rows, hx, .inr ⟨lot, bad, hlot', fun pe ue H1 hpe s1 ee hAe => ?_⟩⟩
  replace hAe := hAe.same rs_sub
  refine L_rl (.of ee) ?_
  refine lc_fm walk_list (fun i => (ends lot bad 1 g0 rows)[i]?.bind fun e => if decide (e.2.2.1 = Str.ofString "by") = true then some (.int e.2.2.2) else none) ?_ (fun H' e => .of (e _ _ ee)) ?_ ?_
  · have := hAe.len
    have := ends_len (lot := lot) (bad := bad) (k := 1) (g := g0) (rows := rows)
    have := ho.len
    rw [List.length_map] at *
    omega
  · rintro i x1 Ha Hb R R' hi sm ⟨rfl, hx1⟩ q1 q2
    obtain ⟨e, t, he, rfl, hT⟩ := hit4e hAe hx1
    refine L_gTup (sm.seqT hT) rfl ?_
    walk_at "sts"
    refine ⟨rfl, ?_⟩
    walk_at "sts"
    by_cases c : e.2.2.1 = Str.ofString "by"
    · refine L_dT c ?_
      walk_at "sts"
      exact q1 _ _ (by rw [he]; exact if_pos (decide_eq_true c)) (Same.refl _)
    · refine L_dF c ?_
      exact q2 _ (by rw [he]; exact if_neg (by rw [decide_eq_false c]; decide)) (Same.refl _)
  intro p2 H2 hp2 s2 e2
  have hue := hAe.len
  rw [List.length_map] at hue
  rw [hue, fm_flt (fun e : Ent => decide (e.2.2.1 = Str.ofString "by")) (fun e : Ent => V.int e.2.2.2)] at e2
  replace e2 : H2 p2 = some (.lst ((((ends lot bad 1 g0 rows).filter fun e => decide (e.2.2.1 = Str.ofString "by")).map fun e => e.2.2.2).map V.int)) := by rw [List.map_map]; exact e2
  walk_at "sts"
  refine L_sum (.of e2) ?_
  walk_at "sts"
  refine ⟨b0, b1, l1, ?_⟩
  have hc := chs_pos l1 (k := bad.toNat) (by omega)
  walk_at "sts"
  refine ⟨by omega, hc.2.mono (by decide), ?_⟩
  exact q _ (s1.trans s2)
def sp_Looks_looked_at (K : PySem.W.Frag) (mg : Str → Option Value) : Sp := fun vs H Q E => match vs with | [.ref x, v, w] => ∃ rows, LK K mg H x rows ∧ ((BadLot K H rows.length v w ∧ E (.ref (cA mg "NoLot")) none H) ∨ ∃ lot bad, Lot rows.length v w lot bad ∧ ∀ H1, Same H H1 → NewT H1 [.int (shr (lookSum (ends lot bad 1 g0 rows)) (chs lot bad.toNat)).1, .int (shr (lookSum (ends lot bad 1 g0 rows)) (chs lot bad.toNat)).2] Q) | _ => False
theorem c_Looks_looked_at (T : Txt K mg) : MetX P w K mg base 4 (cA mg "Looks") "looked_at" (sp_Looks_looked_at K mg) := by
  refine MethAt.metX T.k_Looks T.d_Looks_looked_at (k := 3) sc_Looks_looked_at (by intro vs H Q E h; unfold sp_Looks_looked_at at h; split at h <;> first | rfl | exact h.elim) fun f cdv A outer s H vs Q E hr h => ?_
  refine ⟨_, (pss_cons (ps_set (i := 3) sc_Looks_looked_at.nd rfl (.inl rfl) (pe_callB (cr_sum rfl) (by rfl) T.n_sum (by decide +kernel) (pa_cons (pe_lc (own := [("looked", 4), ("found", 5), ("word", 6), ("ways", 7)]) (g := (gTup K 4 (gCons (gName 4) (gCons (gName 5) (gCons (gName 6) (gCons (gName 7) gNil)))))) (tt := tYes) (te := (tOp aMul (tVar 4) (tVar 7))) rfl sc_Looks_looked_at.nd (pi_list (pe_xMt (c_Looks_endings T) hr (by decide) (fun σ => passAt (takes_of rfl rfl rfl rfl) σ) (pv 0) (pa_cons (pv 1) (pa_cons (pv 2) pa_nil)))) (blkOk_by (N := ["self", "lot", "bad", "many", "looked", "found", "word", "ways"]) (sc := defScope s_Looks_looked_at) (by decide +kernel)) (fun _ _ _ _ _ => by exact (pg_tup rfl (pgs_cons (pg_name (i := 4) sc_Looks_looked_at.nd rfl (.inl rfl)) (pgs_cons (pg_name (i := 5) sc_Looks_looked_at.nd rfl (.inl rfl)) (pgs_cons (pg_name (i := 6) sc_Looks_looked_at.nd rfl (.inl rfl)) (pgs_cons (pg_name (i := 7) sc_Looks_looked_at.nd rfl (.inl rfl)) pgs_nil)))))) (fun _ _ _ _ _ => pts_nil) (fun _ _ _ _ _ => by exact (pe_op op_mulA (pv 4) (pv 7)))) pa_nil)))
    (pss_one (ps_ret (pe_c (c_share T) hr (by decide) (by rfl) (pa_cons (pv 3) (pa_cons (pe_c (c_sets_of T) hr (by decide) (by rfl) (pa_cons (pv 1) (pa_cons (pv 2) pa_nil))) pa_nil)))))), ?_⟩
  try simp only [cxOf_K, cxOf_K', cxOf_mg, cxOf_mg']
  unfold sp_Looks_looked_at at h
  split at h
  case h_2 => exact h.elim
  rename_i x v w
  rw [show L2.start ["self", "lot", "bad", "many", "looked", "found", "word", "ways"] [V.ref x, v, w] = [some (V.ref x), some (v), some (w), none, none, none, none, none] from rfl]
  obtain ⟨rows, hx, h⟩ := h
  rcases h with ⟨hb, q⟩ | ⟨lot, bad, hlot, q⟩
  · obtain ⟨dx, p, us, h1, h2, h3, h4⟩ := hx
    walk_at "sts"
    refine L_methv h1 rfl ?_
    walk_at "sts"
    exact ⟨rows, ⟨dx, p, us, h1, h2, h3, h4⟩, .inl ⟨hb, q⟩⟩
  obtain ⟨dx, p, us, h1, h2, h3, ho⟩ := hx
  have hx : LK K mg H x rows := ⟨dx, p, us, h1, h2, h3, ho⟩
  have hlot' := hlot
  obtain ⟨rfl, rfl, l0, l1, b0, b1⟩ := hlot
  walk_at "sts"
  refine L_methv h1 rfl ?_
  walk_at "sts"
  refine ⟨rows, hx, .inr ⟨lot, bad, hlot', fun pe ue H1 hpe s1 ee hAe => ?_⟩⟩
  replace hAe := hAe.same rs_sub
  have hrl := ho.len
  refine L_rl (.of ee) ?_
  refine lc_fm walk_list (fun i => (ends lot bad 1 g0 rows)[i]?.map fun e => .int (e.1 * e.2.2.2)) ?_ (fun H' e => .of (e _ _ ee)) ?_ ?_
  · have := hAe.len
    have := ends_len (lot := lot) (bad := bad) (k := 1) (g := g0) (rows := rows)
    rw [List.length_map] at *
    omega
  · rintro i x1 Ha Hb R R' hi sm ⟨rfl, hx1⟩ q1 q2
    obtain ⟨e, t, he, rfl, hT⟩ := hit4e hAe hx1
    have hb := ends_b l1 b0 b1 (rows := rows) Gk.zero (by omega) (by omega) e (by
      rw [show ((0 : Nat) : Int) + 1 = 1 by rfl]
      exact List.mem_of_getElem? he)
    refine L_gTup (sm.seqT hT) rfl ?_
    walk_at "sts"
    refine ⟨rfl, ?_⟩
    walk_at "sts"
    refine L_mulI ((bd_64 (by omega)).cmul hb.2.2.2) ?_
    exact q1 _ _ (by rw [he]; rfl) (Same.refl _)
  intro p2 H2 hp2 s2 e2
  have hue := hAe.len
  rw [List.length_map] at hue
  rw [hue, fm_get (fun e : Ent => V.int (e.1 * e.2.2.2))] at e2
  replace e2 : H2 p2 = some (.lst (((ends lot bad 1 g0 rows).map fun e => e.1 * e.2.2.2).map V.int)) := by rw [List.map_map]; exact e2
  walk_at "sts"
  refine L_sum (.of e2) ?_
  walk_at "sts"
  refine ⟨b0, b1, l1, ?_⟩
  have hc := chs_pos l1 (k := bad.toNat) (by omega)
  walk_at "sts"
  refine ⟨by omega, hc.2.mono (by decide), ?_⟩
  exact q _ (s1.trans s2)
/-! ### the endings summed up, from the end back -/
def sR (F : Nat → Int) : Nat → Int
  | 0 => 0
  | n + 1 => sR F n + F n
theorem sR_congr {F G : Nat → Int} : ∀ {n : Nat}, (∀ i, i < n → F i = G i) → sR F n = sR G n
  | 0, _ => rfl
  | n + 1, h => by
    show sR F n + F n = sR G n + G n
    rw [sR_congr (n := n) fun i hi => h i (by omega), h n (by omega)]
theorem sR_add (F G : Nat → Int) : ∀ n, sR (fun i => F i + G i) n = sR F n + sR G n
  | 0 => rfl
  | n + 1 => by
    show sR _ n + (F n + G n) = sR F n + F n + (sR G n + G n)
    rw [sR_add F G n]
    omega
/-- moved on by one -/
theorem sR_shift (F : Nat → Int) : ∀ n, sR (fun i => F (i + 1)) n + F 0 = sR F n + F n
  | 0 => by show (0 : Int) + F 0 = 0 + F 0; rfl
  | n + 1 => by
    have := sR_shift F n
    show sR _ n + F (n + 1) + F 0 = sR F n + F n + F (n + 1)
    omega
theorem upN_succ (n : Nat) : upN (n + 1) = upN n ++ [(n : Int)] := by
  unfold upN
  rw [List.range_succ, List.map_append]
  rfl
theorem keys_sum (h G : Int → Int) : ∀ n, ((keysOf n h).map G).sum = sR (fun i => if h (i : Int) ≠ 0 then G (i : Int) else 0) n
  | 0 => rfl
  | n + 1 => by
    unfold keysOf
    rw [upN_succ, List.filter_append, List.map_append, List.sum_append]
    have ih := keys_sum h G n
    unfold keysOf at ih
    rw [ih]
    show sR _ n + _ = sR _ n + (if h (n : Int) ≠ 0 then G (n : Int) else 0)
    by_cases z : h (n : Int) ≠ 0
    · rw [if_pos z, List.filter_cons_of_pos (by exact decide_eq_true z)]
      simp
    · rw [if_neg z, List.filter_cons_of_neg (by simpa using z)]
      simp
def opn : Str := Str.ofString "open"
/-- what becomes of a find, reckoned from the end back -/
def aft (wt : Int → Str → Int) (lot bad : Int) : Int → List (Int × Int) → Int → Int
  | _, [], _ => 0
  | k, r :: rows, f => if Gat lot bad k f ∧ 0 ≤ f ∧ f ≤ k then (if word r f = Str.ofString "open" then aft wt lot bad (k + 1) rows f + aft wt lot bad (k + 1) rows (f + 1) else chs (lot - k) (bad - f).toNat * wt k (word r f)) else 0
def wsum (wt : Int → Str → Int) (l : List Ent) : Int := (l.map fun e => e.2.2.2 * wt e.1 e.2.2.1).sum
theorem wsum_app (wt : Int → Str → Int) (a b : List Ent) : wsum wt (a ++ b) = wsum wt a + wsum wt b := by
  unfold wsum
  rw [List.map_append, List.sum_append]
theorem wsum_ent (wt : Int → Str → Int) (lot bad k : Int) (r : Int × Int) (h : Int → Int) : ∀ l : List Int, wsum wt (l.filterMap (ent1 lot bad k r h)) = (l.map fun f => if word r f = Str.ofString "open" then 0 else h f * chs (lot - k) (bad - f).toNat * wt k (word r f)).sum
  | [] => rfl
  | f :: l => by
    rw [List.filterMap_cons, List.map_cons, List.sum_cons]
    have ih := wsum_ent wt lot bad k r h l
    by_cases c : word r f = Str.ofString "open"
    · rw [show ent1 lot bad k r h f = none from if_pos c, if_pos c, Int.zero_add]
      exact ih
    · rw [show ent1 lot bad k r h f = some (k, f, word r f, h f * chs (lot - k) (bad - f).toNat) from if_neg c, if_neg c, ← ih]
      rfl
theorem dual (wt : Int → Str → Int) {lot bad : Int} : ∀ {rows : List (Int × Int)} {k : Nat} {g : Int → Int}, Gk k g → k + rows.length ≤ 24 →
    wsum wt (ends lot bad (k + 1) g rows) = sR (fun i => (g (i : Int) + g ((i : Int) - 1)) * aft wt lot bad (k + 1) rows (i : Int)) 26 := by
  intro rows
  induction rows with
  | nil =>
    intro k g _ _
    rw [sR_congr (G := fun _ => 0) fun i _ => by rw [aft, Int.mul_zero]]
    rfl
  | cons r rows ih =>
    intro k g hg hk
    rw [List.length_cons] at hk
    have hg' := hg.pre lot bad ((k : Int) + 1)
    have hn := hg'.nx r
    have ih' := ih hn (by omega)
    rw [show ((k + 1 : Nat) : Int) + 1 = (k : Int) + 1 + 1 by omega] at ih'
    rw [ends, wsum_app, ih', wsum_ent, keys_sum]
    generalize hh : pre lot bad ((k : Int) + 1) g = h at hg' hn
    have hz : ∀ f : Int, h f ≠ 0 → Gat lot bad ((k : Int) + 1) f ∧ 0 ≤ f ∧ f ≤ (k : Int) + 1 := fun f hf => by
      have h1 := hg'.s f hf
      refine ⟨?_, h1.1, by omega⟩
      rw [← hh] at hf
      unfold pre at hf
      by_cases hG : Gat lot bad ((k : Int) + 1) f
      · exact hG
      · rw [if_neg hG] at hf
        exact absurd rfl hf
    have hpre : ∀ f : Int, Gat lot bad ((k : Int) + 1) f → g f + g (f - 1) = h f := fun f hG => by
      rw [← hh]
      unfold pre
      rw [if_pos hG]
    -- the right side, each find by itself
    have e1 : ∀ i : Nat, (g (i : Int) + g ((i : Int) - 1)) * aft wt lot bad ((k : Int) + 1) (r :: rows) (i : Int) =
        (if h (i : Int) ≠ 0 then (if word r i = Str.ofString "open" then 0 else h i * chs (lot - ((k : Int) + 1)) (bad - i).toNat * wt ((k : Int) + 1) (word r i)) else 0) + (nx r h i * aft wt lot bad ((k : Int) + 1 + 1) rows i + nx r h i * aft wt lot bad ((k : Int) + 1 + 1) rows (i + 1)) := fun i => by
      rw [aft]
      by_cases z : h (i : Int) = 0
      · rw [if_neg (show ¬ h (i : Int) ≠ 0 from fun w => w z), show nx r h (i : Int) = 0 by
          unfold nx
          rw [z]
          split <;> rfl, Int.zero_mul, Int.zero_mul]
        by_cases hG : Gat lot bad ((k : Int) + 1) (i : Int)
        · rw [hpre _ hG, z, Int.zero_mul]; rfl
        · rw [if_neg (show ¬ (Gat lot bad ((k : Int) + 1) (i : Int) ∧ 0 ≤ (i : Int) ∧ (i : Int) ≤ (k : Int) + 1) from fun w => hG w.1), Int.mul_zero]; rfl
      · obtain ⟨a, b, c⟩ := hz _ z
        rw [if_pos (show h (i : Int) ≠ 0 from z), if_pos (show Gat lot bad ((k : Int) + 1) (i : Int) ∧ 0 ≤ (i : Int) ∧ (i : Int) ≤ (k : Int) + 1 from ⟨a, b, c⟩), hpre _ a]
        by_cases w : word r (i : Int) = Str.ofString "open"
        · rw [if_pos w, if_pos w, show nx r h (i : Int) = h i from if_pos w, Int.mul_add, Int.zero_add]
        · rw [if_neg w, if_neg w, show nx r h (i : Int) = 0 from if_neg w, Int.zero_mul, Int.zero_mul, Int.add_zero, Int.add_zero, Int.mul_assoc]
    have e2 : sR (fun i => (g (i : Int) + g ((i : Int) - 1)) * aft wt lot bad ((k : Int) + 1) (r :: rows) (i : Int)) 26 = _ := sR_congr fun i _ => e1 i
    rw [e2, sR_add, sR_add]
    have e3 : sR (fun i => (nx r h (i : Int) + nx r h ((i : Int) - 1)) * aft wt lot bad ((k : Int) + 1 + 1) rows (i : Int)) 26 = sR (fun i => nx r h (i : Int) * aft wt lot bad ((k : Int) + 1 + 1) rows (i : Int) + nx r h ((i : Int) - 1) * aft wt lot bad ((k : Int) + 1 + 1) rows (i : Int)) 26 := sR_congr fun i _ => Int.add_mul ..
    rw [e3, sR_add]
    have sh := sR_shift (fun i => nx r h ((i : Int) - 1) * aft wt lot bad ((k : Int) + 1 + 1) rows (i : Int)) 26
    have z0 : nx r h (((0 : Nat) : Int) - 1) = 0 := by
      by_cases z : nx r h (((0 : Nat) : Int) - 1) = 0
      · exact z
      · have := hn.s _ z
        omega
    have z26 : nx r h (((26 : Nat) : Int) - 1) = 0 := by
      by_cases z : nx r h (((26 : Nat) : Int) - 1) = 0
      · exact z
      · have := hn.s _ z
        omega
    rw [z0, z26, Int.zero_mul, Int.zero_mul, Int.add_zero, Int.add_zero] at sh
    have e4 : sR (fun i => nx r h (i : Int) * aft wt lot bad ((k : Int) + 1 + 1) rows ((i : Int) + 1)) 26 = sR (fun i => nx r h (((i + 1 : Nat) : Int) - 1) * aft wt lot bad ((k : Int) + 1 + 1) rows ((i + 1 : Nat) : Int)) 26 := sR_congr fun i _ => by
      rw [show (((i + 1 : Nat) : Int) - 1) = (i : Int) by omega, show ((i + 1 : Nat) : Int) = (i : Int) + 1 by omega]
    rw [e4, sh]
    have e5 : sR (fun i => if h (i : Int) ≠ 0 then (if word r i = Str.ofString "open" then 0 else h i * chs (lot - ((k : Int) + 1)) (bad - i).toNat * wt ((k : Int) + 1) (word r i)) else 0) 26 = sR (fun i => if h (i : Int) ≠ 0 then (if word r i = Str.ofString "open" then 0 else h i * chs (lot - ((k : Int) + 1)) (bad - i).toNat * wt ((k : Int) + 1) (word r i)) else 0) 25 := by
      show sR _ 25 + (if h ((25 : Nat) : Int) ≠ 0 then _ else 0) = _
      rw [if_neg, Int.add_zero]
      intro z
      have := hz _ z
      omega
    rw [e5]
/-- the root -/
def root (wt : Int → Str → Int) (lot bad : Int) (rows : List (Int × Int)) : Int := aft wt lot bad 1 rows 0 + aft wt lot bad 1 rows 1
theorem root_eq (wt : Int → Str → Int) {lot bad : Int} {rows : List (Int × Int)} (h : rows.length ≤ 24) : wsum wt (ends lot bad 1 g0 rows) = root wt lot bad rows := by
  have e := dual wt (lot := lot) (bad := bad) (rows := rows) (k := 0) (g := g0) Gk.zero (by omega)
  rw [show ((0 : Nat) : Int) + 1 = 1 by rfl] at e
  rw [e]
  have key : ∀ n : Nat, 2 ≤ n → sR (fun i => (g0 (i : Int) + g0 ((i : Int) - 1)) * aft wt lot bad 1 rows (i : Int)) n = root wt lot bad rows := by
    intro n
    induction n with
    | zero => intro h; omega
    | succ n ih =>
      intro hn
      by_cases e : n = 1
      · subst e
        show (0 + (1 + 0) * aft wt lot bad 1 rows 0) + (0 + 1) * aft wt lot bad 1 rows 1 = _
        rw [Int.zero_add, Int.add_zero, Int.zero_add, Int.one_mul, Int.one_mul]
        rfl
      · show sR _ n + (g0 (n : Int) + g0 ((n : Int) - 1)) * aft wt lot bad 1 rows (n : Int) = _
        rw [ih (by omega), show g0 (n : Int) = 0 from if_neg (by omega), show g0 ((n : Int) - 1) = 0 from if_neg (by omega), Int.add_zero, Int.zero_mul, Int.add_zero]
  exact key 26 (by decide)
def wBy (_ : Int) (w : Str) : Int := if w = Str.ofString "by" then 1 else 0
def wLook (k : Int) (_ : Str) : Int := k
def wAll (_ : Int) (_ : Str) : Int := 1
theorem bySum_w : ∀ l : List Ent, bySum l = wsum wBy l
  | [] => rfl
  | e :: l => by
    have ih := bySum_w l
    unfold bySum wsum at *
    rw [List.map_cons, List.sum_cons, ← ih]
    by_cases c : e.2.2.1 = Str.ofString "by"
    · rw [List.filter_cons_of_pos (by exact decide_eq_true c), List.map_cons, List.sum_cons, show wBy e.1 e.2.2.1 = 1 from if_pos c, Int.mul_one]
    · rw [List.filter_cons_of_neg (by simpa using c), show wBy e.1 e.2.2.1 = 0 from if_neg c, Int.mul_zero, Int.zero_add]
theorem lookSum_w (l : List Ent) : lookSum l = wsum wLook l := by
  unfold lookSum wsum wLook
  congr 1
  exact List.map_congr_left fun e _ => Int.mul_comm ..
theorem allSum_w (l : List Ent) : (l.map fun e => e.2.2.2).sum = wsum wAll l := by
  unfold wsum wAll
  congr 1
  exact List.map_congr_left fun e _ => (Int.mul_one _).symm
/-! ### together they are all sets -/
/-- some rows, the last of them never open -/
def Shut (rows : List (Int × Int)) : Prop := ∃ ini l, rows = ini ++ [l] ∧ l.2 = l.1 + 1
theorem Shut.tail {r s : Int × Int} {rows : List (Int × Int)} (h : Shut (r :: s :: rows)) : Shut (s :: rows) := by
  obtain ⟨ini, l, e, hl⟩ := h
  cases ini with
  | nil =>
    injection e with _ e
    exact absurd e (by simp)
  | cons a ini =>
    rw [List.cons_append] at e
    injection e with _ e
    exact ⟨ini, l, e, hl⟩
theorem Shut.one {r : Int × Int} (h : Shut [r]) (f : Int) : word r f ≠ Str.ofString "open" := by
  obtain ⟨ini, l, e, hl⟩ := h
  cases ini with
  | nil =>
    cases e
    unfold word
    by_cases c : f ≤ r.1
    · rw [if_pos c]; decide +kernel
    · rw [if_neg c, if_pos (by omega)]; decide +kernel
  | cons a ini =>
    rw [List.cons_append] at e
    injection e with _ e
    exact absurd e (by simp)
theorem aft_all {lot bad : Int} (l1 : lot ≤ 24) (b0 : 0 ≤ bad) (b1 : bad ≤ lot) : ∀ {rows : List (Int × Int)} {k f : Int}, rows ≠ [] → Shut rows → Gat lot bad k f → 0 ≤ f → f ≤ k → k + rows.length - 1 ≤ lot → aft wAll lot bad k rows f = (ch (lot - k).toNat (bad - f).toNat : Nat) := by
  intro rows
  induction rows with
  | nil => intro k f h; exact absurd rfl h
  | cons r rows ih =>
    intro k f _ hs hG h0 h1 hk
    have g1 := hG.1
    have g2 := hG.2
    rw [aft, if_pos ⟨hG, h0, h1⟩]
    rw [List.length_cons] at hk
    by_cases w : word r f = Str.ofString "open"
    · cases rows with
      | nil => exact absurd w (hs.one f)
      | cons s rows =>
        rw [List.length_cons] at hk ih
        rw [if_pos w]
        have e1 : aft wAll lot bad (k + 1) (s :: rows) f = (ch (lot - k - 1).toNat (bad - f).toNat : Nat) := by
          by_cases hG' : Gat lot bad (k + 1) f
          · rw [ih (by simp) hs.tail hG' h0 (by omega) (by omega), show (lot - (k + 1)).toNat = (lot - k - 1).toNat by omega]
          · rw [aft, if_neg fun z => hG' z.1, ch_out (show (lot - k - 1).toNat < (bad - f).toNat by
              have : ¬ (f ≤ bad ∧ k + 1 - f ≤ lot - bad) := hG'
              omega)]
            rfl
        have e2 : aft wAll lot bad (k + 1) (s :: rows) (f + 1) = if f < bad then ((ch (lot - k - 1).toNat (bad - f - 1).toNat : Nat) : Int) else 0 := by
          by_cases hG' : Gat lot bad (k + 1) (f + 1)
          · rw [ih (by simp) hs.tail hG' (by omega) (by omega) (by omega), show (lot - (k + 1)).toNat = (lot - k - 1).toNat by omega, show (bad - (f + 1)).toNat = (bad - f - 1).toNat by omega, if_pos (by have := hG'.1; omega)]
          · rw [aft, if_neg fun z => hG' z.1, if_neg (by
              have : ¬ (f + 1 ≤ bad ∧ k + 1 - (f + 1) ≤ lot - bad) := hG'
              omega)]
        rw [e1, e2]
        obtain ⟨m, hm⟩ : ∃ m : Nat, lot - k = (m : Int) + 1 := ⟨(lot - k - 1).toNat, by omega⟩
        rw [show (lot - k).toNat = m + 1 by omega, show (lot - k - 1).toNat = m by omega]
        by_cases hf : f < bad
        · obtain ⟨r', hr⟩ : ∃ r' : Nat, bad - f = (r' : Int) + 1 := ⟨(bad - f - 1).toNat, by omega⟩
          rw [if_pos hf, show (bad - f).toNat = r' + 1 by omega, show (bad - f - 1).toNat = r' by omega, ch_step]
          omega
        · rw [if_neg hf, show (bad - f).toNat = 0 by omega, ch_zero, ch_zero]
          rfl
    · rw [if_neg w]
      show chs (lot - k) (bad - f).toNat * 1 = _
      rw [Int.mul_one, show lot - k = ((lot - k).toNat : Int) by omega, chs_ch (by omega)]
      rfl
theorem root_all {lot bad : Int} {rows : List (Int × Int)} (ho : OkT rows) (hl : (rows.length : Int) ≤ lot) (l1 : lot ≤ 24) (b0 : 0 ≤ bad) (b1 : bad ≤ lot) : root wAll lot bad rows = (ch lot.toNat bad.toNat : Nat) := by
  have hn : rows ≠ [] := fun z => by
    have := ho.lenpos
    rw [z] at this
    exact absurd this (by decide)
  have hp := ho.lenpos
  unfold root
  have e1 : aft wAll lot bad 1 rows 0 = (ch (lot - 1).toNat bad.toNat : Nat) := by
    by_cases hG : Gat lot bad 1 0
    · rw [aft_all l1 b0 b1 hn ho.last hG (by decide) (by decide) (by omega), Int.sub_zero]
    · have hG' : ¬ (0 ≤ bad ∧ 1 - 0 ≤ lot - bad) := hG
      rw [ch_out (show (lot - 1).toNat < bad.toNat by omega)]
      cases rows with
      | nil => rfl
      | cons r rows => rw [aft, if_neg fun z => hG z.1]; rfl
  have e2 : aft wAll lot bad 1 rows 1 = if 0 < bad then ((ch (lot - 1).toNat (bad - 1).toNat : Nat) : Int) else 0 := by
    by_cases hG : Gat lot bad 1 1
    · rw [aft_all l1 b0 b1 hn ho.last hG (by decide) (by decide) (by omega), if_pos (by have := hG.1; omega)]
    · have hG' : ¬ (1 ≤ bad ∧ 1 - 1 ≤ lot - bad) := hG
      rw [if_neg (by omega)]
      cases rows with
      | nil => rfl
      | cons r rows => rw [aft, if_neg fun z => hG z.1]
  rw [e1, e2]
  obtain ⟨m, hm⟩ : ∃ m : Nat, lot = (m : Int) + 1 := ⟨(lot - 1).toNat, by omega⟩
  rw [show lot.toNat = m + 1 by omega, show (lot - 1).toNat = m by omega]
  by_cases hf : 0 < bad
  · obtain ⟨r', hr⟩ : ∃ r' : Nat, bad = (r' : Int) + 1 := ⟨(bad - 1).toNat, by omega⟩
    rw [if_pos hf, show bad.toNat = r' + 1 by omega, show (bad - 1).toNat = r' by omega, ch_step]
    omega
  · rw [if_neg hf, show bad.toNat = 0 by omega, ch_zero, ch_zero]
    rfl
/-- what becomes of a find, reckoned from the end back -/
def aftF (wt : Int → Int → Int) (lot bad : Int) : Int → List (Int × Int) → Int → Int
  | _, [], _ => 0
  | k, r :: rows, f => if Gat lot bad k f ∧ 0 ≤ f ∧ f ≤ k then (if word r f = Str.ofString "open" then aftF wt lot bad (k + 1) rows f + aftF wt lot bad (k + 1) rows (f + 1) else chs (lot - k) (bad - f).toNat * wt k f) else 0
def wsumF (wt : Int → Int → Int) (l : List Ent) : Int := (l.map fun e => e.2.2.2 * wt e.1 e.2.1).sum
theorem wsumF_app (wt : Int → Int → Int) (a b : List Ent) : wsumF wt (a ++ b) = wsumF wt a + wsumF wt b := by
  unfold wsumF
  rw [List.map_append, List.sum_append]
theorem wsumF_ent (wt : Int → Int → Int) (lot bad k : Int) (r : Int × Int) (h : Int → Int) : ∀ l : List Int, wsumF wt (l.filterMap (ent1 lot bad k r h)) = (l.map fun f => if word r f = Str.ofString "open" then 0 else h f * chs (lot - k) (bad - f).toNat * wt k f).sum
  | [] => rfl
  | f :: l => by
    rw [List.filterMap_cons, List.map_cons, List.sum_cons]
    have ih := wsumF_ent wt lot bad k r h l
    by_cases c : word r f = Str.ofString "open"
    · rw [show ent1 lot bad k r h f = none from if_pos c, if_pos c, Int.zero_add]
      exact ih
    · rw [show ent1 lot bad k r h f = some (k, f, word r f, h f * chs (lot - k) (bad - f).toNat) from if_neg c, if_neg c, ← ih]
      rfl
theorem dualF (wt : Int → Int → Int) {lot bad : Int} : ∀ {rows : List (Int × Int)} {k : Nat} {g : Int → Int}, Gk k g → k + rows.length ≤ 24 →
    wsumF wt (ends lot bad (k + 1) g rows) = sR (fun i => (g (i : Int) + g ((i : Int) - 1)) * aftF wt lot bad (k + 1) rows (i : Int)) 26 := by
  intro rows
  induction rows with
  | nil =>
    intro k g _ _
    rw [sR_congr (G := fun _ => 0) fun i _ => by rw [aftF, Int.mul_zero]]
    rfl
  | cons r rows ih =>
    intro k g hg hk
    rw [List.length_cons] at hk
    have hg' := hg.pre lot bad ((k : Int) + 1)
    have hn := hg'.nx r
    have ih' := ih hn (by omega)
    rw [show ((k + 1 : Nat) : Int) + 1 = (k : Int) + 1 + 1 by omega] at ih'
    rw [ends, wsumF_app, ih', wsumF_ent, keys_sum]
    generalize hh : pre lot bad ((k : Int) + 1) g = h at hg' hn
    have hz : ∀ f : Int, h f ≠ 0 → Gat lot bad ((k : Int) + 1) f ∧ 0 ≤ f ∧ f ≤ (k : Int) + 1 := fun f hf => by
      have h1 := hg'.s f hf
      refine ⟨?_, h1.1, by omega⟩
      rw [← hh] at hf
      unfold pre at hf
      by_cases hG : Gat lot bad ((k : Int) + 1) f
      · exact hG
      · rw [if_neg hG] at hf
        exact absurd rfl hf
    have hpre : ∀ f : Int, Gat lot bad ((k : Int) + 1) f → g f + g (f - 1) = h f := fun f hG => by
      rw [← hh]
      unfold pre
      rw [if_pos hG]
    -- the right side, each find by itself
    have e1 : ∀ i : Nat, (g (i : Int) + g ((i : Int) - 1)) * aftF wt lot bad ((k : Int) + 1) (r :: rows) (i : Int) =
        (if h (i : Int) ≠ 0 then (if word r i = Str.ofString "open" then 0 else h i * chs (lot - ((k : Int) + 1)) (bad - i).toNat * wt ((k : Int) + 1) i) else 0) + (nx r h i * aftF wt lot bad ((k : Int) + 1 + 1) rows i + nx r h i * aftF wt lot bad ((k : Int) + 1 + 1) rows (i + 1)) := fun i => by
      rw [aftF]
      by_cases z : h (i : Int) = 0
      · rw [if_neg (show ¬ h (i : Int) ≠ 0 from fun w => w z), show nx r h (i : Int) = 0 by
          unfold nx
          rw [z]
          split <;> rfl, Int.zero_mul, Int.zero_mul]
        by_cases hG : Gat lot bad ((k : Int) + 1) (i : Int)
        · rw [hpre _ hG, z, Int.zero_mul]; rfl
        · rw [if_neg (show ¬ (Gat lot bad ((k : Int) + 1) (i : Int) ∧ 0 ≤ (i : Int) ∧ (i : Int) ≤ (k : Int) + 1) from fun w => hG w.1), Int.mul_zero]; rfl
      · obtain ⟨a, b, c⟩ := hz _ z
        rw [if_pos (show h (i : Int) ≠ 0 from z), if_pos (show Gat lot bad ((k : Int) + 1) (i : Int) ∧ 0 ≤ (i : Int) ∧ (i : Int) ≤ (k : Int) + 1 from ⟨a, b, c⟩), hpre _ a]
        by_cases w : word r (i : Int) = Str.ofString "open"
        · rw [if_pos w, if_pos w, show nx r h (i : Int) = h i from if_pos w, Int.mul_add, Int.zero_add]
        · rw [if_neg w, if_neg w, show nx r h (i : Int) = 0 from if_neg w, Int.zero_mul, Int.zero_mul, Int.add_zero, Int.add_zero, Int.mul_assoc]
    have e2 : sR (fun i => (g (i : Int) + g ((i : Int) - 1)) * aftF wt lot bad ((k : Int) + 1) (r :: rows) (i : Int)) 26 = _ := sR_congr fun i _ => e1 i
    rw [e2, sR_add, sR_add]
    have e3 : sR (fun i => (nx r h (i : Int) + nx r h ((i : Int) - 1)) * aftF wt lot bad ((k : Int) + 1 + 1) rows (i : Int)) 26 = sR (fun i => nx r h (i : Int) * aftF wt lot bad ((k : Int) + 1 + 1) rows (i : Int) + nx r h ((i : Int) - 1) * aftF wt lot bad ((k : Int) + 1 + 1) rows (i : Int)) 26 := sR_congr fun i _ => Int.add_mul ..
    rw [e3, sR_add]
    have sh := sR_shift (fun i => nx r h ((i : Int) - 1) * aftF wt lot bad ((k : Int) + 1 + 1) rows (i : Int)) 26
    have z0 : nx r h (((0 : Nat) : Int) - 1) = 0 := by
      by_cases z : nx r h (((0 : Nat) : Int) - 1) = 0
      · exact z
      · have := hn.s _ z
        omega
    have z26 : nx r h (((26 : Nat) : Int) - 1) = 0 := by
      by_cases z : nx r h (((26 : Nat) : Int) - 1) = 0
      · exact z
      · have := hn.s _ z
        omega
    rw [z0, z26, Int.zero_mul, Int.zero_mul, Int.add_zero, Int.add_zero] at sh
    have e4 : sR (fun i => nx r h (i : Int) * aftF wt lot bad ((k : Int) + 1 + 1) rows ((i : Int) + 1)) 26 = sR (fun i => nx r h (((i + 1 : Nat) : Int) - 1) * aftF wt lot bad ((k : Int) + 1 + 1) rows ((i + 1 : Nat) : Int)) 26 := sR_congr fun i _ => by
      rw [show (((i + 1 : Nat) : Int) - 1) = (i : Int) by omega, show ((i + 1 : Nat) : Int) = (i : Int) + 1 by omega]
    rw [e4, sh]
    have e5 : sR (fun i => if h (i : Int) ≠ 0 then (if word r i = Str.ofString "open" then 0 else h i * chs (lot - ((k : Int) + 1)) (bad - i).toNat * wt ((k : Int) + 1) i) else 0) 26 = sR (fun i => if h (i : Int) ≠ 0 then (if word r i = Str.ofString "open" then 0 else h i * chs (lot - ((k : Int) + 1)) (bad - i).toNat * wt ((k : Int) + 1) i) else 0) 25 := by
      show sR _ 25 + (if h ((25 : Nat) : Int) ≠ 0 then _ else 0) = _
      rw [if_neg, Int.add_zero]
      intro z
      have := hz _ z
      omega
    rw [e5]
/-- the root -/
def rootF (wt : Int → Int → Int) (lot bad : Int) (rows : List (Int × Int)) : Int := aftF wt lot bad 1 rows 0 + aftF wt lot bad 1 rows 1
theorem rootF_eq (wt : Int → Int → Int) {lot bad : Int} {rows : List (Int × Int)} (h : rows.length ≤ 24) : wsumF wt (ends lot bad 1 g0 rows) = rootF wt lot bad rows := by
  have e := dualF wt (lot := lot) (bad := bad) (rows := rows) (k := 0) (g := g0) Gk.zero (by omega)
  rw [show ((0 : Nat) : Int) + 1 = 1 by rfl] at e
  rw [e]
  have key : ∀ n : Nat, 2 ≤ n → sR (fun i => (g0 (i : Int) + g0 ((i : Int) - 1)) * aftF wt lot bad 1 rows (i : Int)) n = rootF wt lot bad rows := by
    intro n
    induction n with
    | zero => intro h; omega
    | succ n ih =>
      intro hn
      by_cases e : n = 1
      · subst e
        show (0 + (1 + 0) * aftF wt lot bad 1 rows 0) + (0 + 1) * aftF wt lot bad 1 rows 1 = _
        rw [Int.zero_add, Int.add_zero, Int.zero_add, Int.one_mul, Int.one_mul]
        rfl
      · show sR _ n + (g0 (n : Int) + g0 ((n : Int) - 1)) * aftF wt lot bad 1 rows (n : Int) = _
        rw [ih (by omega), show g0 (n : Int) = 0 from if_neg (by omega), show g0 ((n : Int) - 1) = 0 from if_neg (by omega), Int.add_zero, Int.zero_mul, Int.add_zero]
  exact key 26 (by decide)
def judge (n : Int) : List ((Int × Int) × Int) → Int → Int → Str × Int
  | [], _, _ => (Str.ofString "open", n)
  | (r, w) :: t, k, f => if word r (f + w) = Str.ofString "open" then judge n t (k + 1) (f + w) else (word r (f + w), k + 1)
def sp_are_wares (K : PySem.W.Frag) (mg : Str → Option Value) : Sp := fun vs H Q _ => match vs with | [v] => (∃ ws, GoodNs K H v ws 0 1 ∧ Q (.bl true) H) ∨ (BadNs K H v 0 1 ∧ Q (.bl false) H) | _ => False
theorem c_are_wares (T : Txt K mg) : Cal P w K mg base 2 "are_wares" (sp_are_wares K mg) := by
  refine T.d_are_wares.cal (k := 1) sc_are_wares (by intro vs H Q E h; unfold sp_are_wares at h; split at h <;> first | rfl | exact h.elim) fun f cdv A outer s H vs Q E hr h => ?_
  refine ⟨_, (pss_cons (ps_if (PW.pt (pw_or (pt_not (pt_val (pe_callB call_isi (by rfl) T.n_isinstance (by decide +kernel) (pa_cons (pv 0) (pa_cons (pe_ty "list" (by rfl) T.n_list (by decide +kernel)) pa_nil))))) (pw_or1 (pt_cmpR op_gt (pe_callB call_lenA (by rfl) T.n_len (by decide +kernel) (pa_cons (pv 0) pa_nil)) (pe_gc (by rfl) T.g_MOST_WARES) (nomark _)))))
    (pss_one (ps_ret pe_bl))
    pss_nil)
    (pss_cons (ps_for PassesOwn.never rfl (pi_list (pv 0)) (pg_name (i := 1) sc_are_wares.nd rfl (.inl rfl))
    (pss_one (ps_if (pt_not (pt_val (pe_c (c_is_whole T) hr (by decide) (by rfl) (pa_cons (pv 1) (pa_cons pe_int (pa_cons pe_int pa_nil))))))
    (pss_one (ps_ret pe_bl))
    pss_nil)))
    (pss_one (ps_ret pe_bl)))), ?_⟩
  try simp only [cxOf_K, cxOf_K', cxOf_mg, cxOf_mg']
  unfold sp_are_wares at h
  split at h
  case h_2 => exact h.elim
  rename_i v
  rw [show L2.start ["thing", "ware"] [v] = [some (v), none] from rfl]
  rcases h with ⟨ts, ⟨a, rfl, hL, hl, hg⟩, q⟩ | ⟨⟨ty, h1, h2⟩ | ⟨a, xs, rfl, hL, h⟩, q⟩
  · walk_at "sts"
    refine L_isi (tyx_L hL) (b := true) (by decide +kernel) ?_
    walk_at "sts"
    refine L_lenL hL ?_
    walk_at "sts"
    refine L_dF (by rw [List.length_map]; omega) ?_
    walk_at "sts"
    refine L_rl hL ?_
    refine f_it walk_list (fun i σ' H' => H' = H ∧ ∃ v, σ' = [some (.ref a), v]) ⟨rfl, _, rfl⟩ (fun _ _ _ _ p => p.1 ▸ hL) ?_ ?_
    · rintro i x σ' H' H'' hi ⟨rfl, v, rfl⟩ ⟨rfl, e⟩
      obtain ⟨t, ht, rfl⟩ := int_of_mem (List.mem_of_getElem? e)
      have := hg t ht
      walk_at "sa"
      exact ⟨rfl, _, rfl⟩
    · rintro σ' H' ⟨rfl, v, rfl⟩
      walk_at "sts"
      exact q
  · walk_at "sts"
    refine L_isi h1 h2 ?_
    walk_at "sts"
    exact q
  · walk_at "sts"
    refine L_isi (tyx_L hL) (b := true) (by decide +kernel) ?_
    walk_at "sts"
    refine L_lenL hL ?_
    walk_at "sts"
    by_cases hz : 24 < xs.length
    · refine L_dT (by omega) ?_
      walk_at "sts"
      exact q
    refine L_dF (by omega) ?_
    obtain ⟨h1, x, hx, hb⟩ := h.resolve_left hz
    obtain ⟨j, hj⟩ := List.mem_iff_getElem?.mp hx
    walk_at "sts"
    refine L_rl hL ?_
    refine f_it walk_list (fun i σ' H' => H' = H ∧ (∃ v, σ' = [some (.ref a), v]) ∧ ∃ j x, i ≤ j ∧ xs[j]? = some x ∧ BadW K H x 0 1) ⟨rfl, ⟨_, rfl⟩, j, x, Nat.zero_le _, hj, hb⟩ (fun _ _ _ _ p => p.1 ▸ hL) ?_ ?_
    · rintro i x σ' H' H'' hi ⟨e1, ⟨v, rfl⟩, j, y, hij, hj, hb⟩ ⟨e2, e⟩
      subst e2
      subst e1
      walk_at "sts"
      by_cases hc : BadW K H'' x 0 1
      · refine q_wholeB hc ?_
        walk_at "sts"
        exact q
      · obtain ⟨t, rfl, t0, t1⟩ := (h1 x (List.mem_of_getElem? e)).resolve_right hc
        walk_at "sa"
        refine ⟨rfl, ⟨_, rfl⟩, j, y, ?_, hj, hb⟩
        rcases Nat.lt_or_eq_of_le hij with hlt | rfl
        · exact hlt
        · rw [e] at hj
          cases hj
          exact absurd hb hc
    · rintro σ' H' ⟨rfl, ⟨v, rfl⟩, j, y, hij, hj, hb⟩
      have := (List.getElem?_eq_some_iff.mp hj).1
      omega
def sp_Looks_judged (K : PySem.W.Frag) (mg : Str → Option Value) : Sp := fun vs H Q E => match vs with | [.ref x, v] => ∃ (dx p : Addr) (us : List V) (rows : List (Int × Int)), H x = some (.ins (cA mg "Looks") dx [("looks", .ref p)]) ∧ H p = some (.lst us) ∧ DpAll K H us (rows.map d2) ∧ OkT rows ∧ ((BadNs K H v 0 1 ∧ E (.ref (cA mg "NoLot")) none H) ∨ ∃ ws, GoodNs K H v ws 0 1 ∧ ∀ H1, Same H H1 → NewT H1 [.str (judge ws.length (rows.zip ws) 0 0).1, .int (judge ws.length (rows.zip ws) 0 0).2] Q) | _ => False
theorem q_Looks_judged {H : Hp} {Q : VK} {E : XK} {x : Addr} {v : V} (q : ∃ (dx p : Addr) (us : List V) (rows : List (Int × Int)), H x = some (.ins (cA mg "Looks") dx [("looks", .ref p)]) ∧ H p = some (.lst us) ∧ DpAll K H us (rows.map d2) ∧ OkT rows ∧ ((BadNs K H v 0 1 ∧ E (.ref (cA mg "NoLot")) none H) ∨ ∃ ws, GoodNs K H v ws 0 1 ∧ ∀ H1, Same H H1 → NewT H1 [.str (judge ws.length (rows.zip ws) 0 0).1, .int (judge ws.length (rows.zip ws) 0 0).2] Q)) : sp_Looks_judged K mg [.ref x, v] H Q E := q
local macro_rules | `(tactic| walk_at "op") => `(tactic| with_reducible refine q_Looks_judged ?_)
theorem c_Looks_judged (T : Txt K mg) : MetX P w K mg base 3 (cA mg "Looks") "judged" (sp_Looks_judged K mg) := by
  refine MethAt.metX T.k_Looks T.d_Looks_judged (k := 2) sc_Looks_judged (by intro vs H Q E h; unfold sp_Looks_judged at h; split at h <;> first | rfl | exact h.elim) fun f cdv A outer s H vs Q E hr h => ?_
  refine ⟨_, (pss_cons (ps_if (pt_not (pt_val (pe_c (c_are_wares T) hr (by decide) (by rfl) (pa_cons (pv 1) pa_nil))))
    (pss_one (ps_raise rfl (takes_of rfl rfl rfl rfl) (pmk_own0 T.x_NoLot T.m_NoLot (by rfl))))
    pss_nil)
    (pss_cons (ps_set (i := 2) sc_Looks_judged.nd rfl (.inl rfl) pe_int)
    (pss_cons (ps_for (passes_of rfl) rfl (pi_enum (by rfl) T.n_enumerate (pa_cons (pe_slice sl_list (pv 1) po_none (po_some (pe_callB call_lenA (by rfl) T.n_len (by decide +kernel) (pa_cons (pe_fld (pv 0) rfl) pa_nil)))) pa_nil)) (pg_tup rfl (pgs_cons (pg_name (i := 3) sc_Looks_judged.nd rfl (.inl rfl)) (pgs_cons (pg_name (i := 4) sc_Looks_judged.nd rfl (.inl rfl)) pgs_nil)))
    (pss_cons (ps_set (i := 2) sc_Looks_judged.nd rfl (.inl rfl) (pe_op op_addA (pv 2) (pv 4)))
    (pss_cons (ps_set (i := 5) sc_Looks_judged.nd rfl (.inl rfl) (pe_mt (c_Looks_word_at T) hr (by decide) (pv 0) (pa_cons (pe_op op_addA (pv 3) pe_int) (pa_cons (pv 2) pa_nil))))
    (pss_one (ps_if (pt_cmpR (op_neA hr) (pv 5) pe_str (nomark _))
    (pss_one (ps_ret (pe_tup (pa_cons (pv 5) (pa_cons (pe_op op_addA (pv 3) pe_int) pa_nil)))))
    pss_nil)))))
    (pss_one (ps_ret (pe_tup (pa_cons pe_str (pa_cons (pe_callB call_lenA (by rfl) T.n_len (by decide +kernel) (pa_cons (pv 1) pa_nil)) pa_nil)))))))), ?_⟩
  try simp only [cxOf_K, cxOf_K', cxOf_mg, cxOf_mg']
  unfold sp_Looks_judged at h
  split at h
  case h_2 => exact h.elim
  rename_i x v
  rw [show L2.start ["self", "wares", "found", "place", "ware", "word"] [V.ref x, v] = [some (V.ref x), some (v), none, none, none, none] from rfl]
  obtain ⟨dx, p, us, rows, hx, hp, hA, ho, ⟨hb, q⟩ | ⟨ws, hg, q⟩⟩ := h
  · walk_at "sts"
    refine .inr ⟨hb, ?_⟩
    walk_at "sts"
    exact q
  walk_at "sts"
  refine .inl ⟨ws, hg, ?_⟩
  obtain ⟨a, rfl, hL, hl, hgb⟩ := hg
  walk_at "sa"
  refine L_slL hL ?_
  walk_at "nwp"
  rename_i p1 hp1 H1 s1 e1
  rw [cutV_map, cutG_take] at e1
  walk_at "sts"
  have hul := hA.len
  rw [List.length_map] at hul
  refine L_re (.of e1) ?_
  generalize hz : rows.zip ws = z at q
  have hzl : z.length = min rows.length ws.length := by rw [← hz, List.length_zip]
  refine f_it walk_enum (fun i σ' H' => Same H1 H' ∧ ∃ (f : Int) (v3 v4 v5 : Option V), σ' = [some (.ref x), some (.ref a), some (.int f), v3, v4, v5] ∧ judge ws.length z 0 0 = judge ws.length (z.drop i) (i : Int) f) ⟨Same.refl _, 0, _, _, _, rfl, rfl⟩ (fun _ _ _ _ p => p.1.seq (.of e1)) ?_ ?_
  · rintro i x1 σ' H4 H4' hi ⟨s4, f, v3, v4, v5, rfl, hj⟩ ⟨T1, k0, t0, rfl, hT, rfl, hk, hx1⟩
    cases hk
    rw [List.length_map, List.length_take] at hi
    replace hx1 : ((ws.take us.length).map V.int)[i]? = some t0 := hx1
    have hiw : i < ws.length := by omega
    have hir : i < rows.length := by omega
    rw [List.getElem?_map, List.getElem?_take, if_pos (by omega), List.getElem?_eq_getElem hiw] at hx1
    cases hx1
    have hzi : z[i]? = some (rows[i], ws[i]) := by
      rw [← hz, List.getElem?_zip_eq_some]
      exact ⟨List.getElem?_eq_getElem hir, List.getElem?_eq_getElem hiw⟩
    have hzd : z.drop i = (rows[i], ws[i]) :: z.drop (i + 1) := by
      have := (List.getElem?_eq_some_iff.mp hzi)
      rw [List.drop_eq_getElem_cons this.1, this.2]
    rw [hzd, judge] at hj
    refine L_gTup (.of upd_same) rfl ?_
    have s4b := same_upd (o := HO.tup [V.int (i : Int), V.int ws[i]]) s4 hT
    generalize upd H4 T1 (HO.tup [V.int (i : Int), V.int ws[i]]) = H5 at s4b
    have s5 := s1.trans s4b
    walk_at "sts"
    refine L_methv (s5 _ _ hx) rfl ?_
    walk_at "sts"
    refine ⟨rows, rows[i], ⟨dx, p, us, s5 _ _ hx, s5 _ _ hp, hA.same s5, ho⟩, by omega, by rw [show ((i : Int) + 1 - 1).toNat = i by omega]; exact List.getElem?_eq_getElem hir, ?_⟩
    walk_at "sts"
    refine L_nd (fun c => ?_) (fun c => ?_)
    · rw [if_neg c] at hj
      rw [hj] at q
      walk_at "sts"
      exact L_nw ((q _ s5).at)
    · rw [if_pos c] at hj
      walk_at "sts"
      exact ⟨s4b, _, _, _, _, rfl, hj⟩
  · rintro σ' H4 ⟨s4, f, v3, v4, v5, rfl, hj⟩
    rw [List.length_map, List.length_take, List.drop_of_length_le (by omega), judge] at hj
    rw [hj] at q
    walk_at "sts"
    refine L_lenL ((s1.trans s4).seq hL) ?_
    walk_at "sts"
    rw [List.length_map]
    exact L_nw ((q _ (s1.trans s4)).at)
/-! ### more bad ones, seldomer by -/
def fct : Nat → Int
  | 0 => 1
  | n + 1 => ((n : Int) + 1) * fct n
theorem fct_pos : ∀ n, 0 < fct n
  | 0 => by decide
  | n + 1 => Int.mul_pos (by omega) (fct_pos n)
theorem ch_fct : ∀ {n k : Nat}, k ≤ n → ((ch n k : Nat) : Int) * (fct k * fct (n - k)) = fct n
  | n, 0, _ => by
    rw [ch_zero, Nat.sub_zero]
    show (1 : Int) * (1 * fct n) = fct n
    rw [Int.one_mul, Int.one_mul]
  | 0, k + 1, h => absurd h (by omega)
  | n + 1, k + 1, h => by
    have h1 := ch_fct (n := n) (k := k) (by omega)
    rw [show n + 1 - (k + 1) = n - k by omega, ch_step]
    have e : fct (k + 1) = ((k : Int) + 1) * fct k := rfl
    have e2 : fct (n + 1) = ((n : Int) + 1) * fct n := rfl
    have p1 : ((ch n k : Nat) : Int) * (fct (k + 1) * fct (n - k)) = ((k : Int) + 1) * fct n := by
      rw [e, ← h1, Int.mul_assoc, Int.mul_left_comm]
    by_cases hk : k = n
    · subst hk
      rw [ch_out (Nat.lt_succ_self k), Nat.add_zero, p1, e2]
    · have h2 := ch_fct (n := n) (k := k + 1) (by omega)
      obtain ⟨d, hd⟩ : ∃ d, n - k = d + 1 := ⟨n - k - 1, by omega⟩
      rw [show n - (k + 1) = d by omega] at h2
      have p2 : ((ch n (k + 1) : Nat) : Int) * (fct (k + 1) * fct (n - k)) = ((d : Int) + 1) * fct n := by
        rw [hd, show fct (d + 1) = ((d : Int) + 1) * fct d from rfl, ← h2, Int.mul_left_comm (fct (k + 1)), Int.mul_left_comm]
      rw [show (((ch n k + ch n (k + 1) : Nat)) : Int) = ((ch n k : Nat) : Int) + ((ch n (k + 1) : Nat) : Int) by omega, Int.add_mul, p1, p2, e2, ← Int.add_mul]
      congr 1
      omega
/-- so many orders of those left are let by -/
def nnf : List (Int × Int) → Nat → Int → Nat → Int
  | [], _, _, _ => 0
  | row :: rows, m, f, r => if f ≤ row.1 then fct m else if row.2 ≤ f then 0 else ((m - r : Nat) : Int) * nnf rows (m - 1) f r + (r : Int) * nnf rows (m - 1) (f + 1) (r - 1)
theorem nn_bd : ∀ (rows : List (Int × Int)) (m : Nat) (f : Int) (r : Nat), r ≤ m → 0 ≤ nnf rows m f r ∧ nnf rows m f r ≤ fct m
  | [], m, f, r, _ => ⟨Int.le_refl _, Int.le_of_lt (fct_pos m)⟩
  | row :: rows, m, f, r, h => by
    have fp := fct_pos m
    rw [nnf]
    split
    · omega
    split
    · omega
    cases m with
    | zero =>
      obtain rfl : r = 0 := by omega
      rw [show (((0 - 0 : Nat)) : Int) = 0 from rfl, Int.zero_mul, Int.zero_mul]
      omega
    | succ m =>
      rw [Nat.add_sub_cancel]
      have e : fct (m + 1) = ((m : Int) + 1) * fct m := rfl
      have fm := fct_pos m
      obtain ⟨a, ha⟩ : ∃ a : Nat, a = m + 1 - r := ⟨_, rfl⟩
      rw [← ha]
      have q1 : 0 ≤ (a : Int) * nnf rows m f r ∧ (a : Int) * nnf rows m f r ≤ (a : Int) * fct m := by
        by_cases z : a = 0
        · subst z
          rw [show ((0 : Nat) : Int) = 0 from rfl, Int.zero_mul, Int.zero_mul]
          omega
        · have b := nn_bd rows m f r (by omega)
          exact ⟨Int.mul_nonneg (by omega) b.1, Int.mul_le_mul_of_nonneg_left b.2 (by omega)⟩
      have q2 : 0 ≤ (r : Int) * nnf rows m (f + 1) (r - 1) ∧ (r : Int) * nnf rows m (f + 1) (r - 1) ≤ (r : Int) * fct m := by
        have b := nn_bd rows m (f + 1) (r - 1) (by omega)
        exact ⟨Int.mul_nonneg (by omega) b.1, Int.mul_le_mul_of_nonneg_left b.2 (by omega)⟩
      have e3 : (a : Int) * fct m + (r : Int) * fct m = fct (m + 1) := by
        rw [e, ← Int.add_mul]
        congr 1
        omega
      omega
structure Mo (rows : List (Int × Int)) : Prop where
  c3 : ∀ (m : Nat) (f : Int) (r : Nat), r ≤ m → nnf rows m (f + 1) r ≤ nnf rows m f r
  c2 : ∀ (m : Nat) (f : Int) (r : Nat), r + 1 ≤ m → nnf rows m (f + 1) r ≤ nnf rows m f (r + 1)
  c1 : ∀ (m : Nat) (f : Int) (r : Nat), r + 1 ≤ m → nnf rows m f (r + 1) ≤ nnf rows m f r
theorem mul_ge {c : Nat} {x y : Int} (h : c ≠ 0 → x ≤ y) : (c : Int) * x ≤ (c : Int) * y := by
  by_cases z : c = 0
  · subst z
    rw [show ((0 : Nat) : Int) = 0 from rfl, Int.zero_mul, Int.zero_mul]
    exact Int.le_refl _
  · exact Int.mul_le_mul_of_nonneg_left (h z) (by omega)
theorem mo : ∀ rows : List (Int × Int), Mo rows
  | [] => ⟨fun _ _ _ _ => Int.le_refl _, fun _ _ _ _ => Int.le_refl _, fun _ _ _ _ => Int.le_refl _⟩
  | row :: rows => by
    have ih := mo rows
    refine ⟨fun m f r h => ?_, fun m f r h => ?_, fun m f r h => ?_⟩
    · have b1 := nn_bd (row :: rows) m (f + 1) r h
      have b2 := nn_bd (row :: rows) m f r h
      by_cases h1 : f ≤ row.1
      · rw [show nnf (row :: rows) m f r = fct m by rw [nnf, if_pos h1]]
        exact b1.2
      by_cases h2 : row.2 ≤ f + 1
      · rw [show nnf (row :: rows) m (f + 1) r = 0 by rw [nnf, if_neg (by omega), if_pos h2]]
        exact b2.1
      rw [nnf, nnf, if_neg (by omega), if_neg h2, if_neg h1, if_neg (by omega)]
      have p1 := mul_ge (c := m - r) (fun z => ih.c3 (m - 1) f r (by omega))
      have p2 := mul_ge (c := r) (fun z => ih.c3 (m - 1) (f + 1) (r - 1) (by omega))
      omega
    · have b1 := nn_bd (row :: rows) m (f + 1) r (by omega)
      have b2 := nn_bd (row :: rows) m f (r + 1) h
      by_cases h1 : f ≤ row.1
      · rw [show nnf (row :: rows) m f (r + 1) = fct m by rw [nnf, if_pos h1]]
        exact b1.2
      by_cases h2 : row.2 ≤ f + 1
      · rw [show nnf (row :: rows) m (f + 1) r = 0 by rw [nnf, if_neg (by omega), if_pos h2]]
        exact b2.1
      rw [nnf, nnf, if_neg (by omega), if_neg h2, if_neg h1, if_neg (by omega), Nat.add_sub_cancel]
      obtain ⟨a, ha⟩ : ∃ a : Nat, m = a + (r + 1) := ⟨m - (r + 1), by omega⟩
      have p1 := mul_ge (c := a) (fun z => ih.c2 (m - 1) f r (by omega))
      have p2 := mul_ge (c := r) (fun z => by
        have := ih.c2 (m - 1) (f + 1) (r - 1) (by omega)
        rw [show r - 1 + 1 = r by omega] at this
        exact this)
      rw [show m - r = a + 1 by omega, show m - (r + 1) = a by omega, show ((a + 1 : Nat) : Int) = (a : Int) + 1 by omega, show ((r + 1 : Nat) : Int) = (r : Int) + 1 by omega, Int.add_mul, Int.add_mul, Int.one_mul]
      omega
    · have b1 := nn_bd (row :: rows) m f (r + 1) h
      by_cases h1 : f ≤ row.1
      · rw [show nnf (row :: rows) m f r = fct m by rw [nnf, if_pos h1]]
        exact b1.2
      by_cases h2 : row.2 ≤ f
      · rw [show nnf (row :: rows) m f (r + 1) = 0 by rw [nnf, if_neg h1, if_pos h2], show nnf (row :: rows) m f r = 0 by rw [nnf, if_neg h1, if_pos h2]]
        exact Int.le_refl _
      rw [nnf, nnf, if_neg h1, if_neg h2, if_neg h1, if_neg h2, Nat.add_sub_cancel]
      obtain ⟨a, ha⟩ : ∃ a : Nat, m = a + (r + 1) := ⟨m - (r + 1), by omega⟩
      have p1 := mul_ge (c := a) (fun z => ih.c1 (m - 1) f r (by omega))
      have p2 := mul_ge (c := r) (fun z => by
        have := ih.c1 (m - 1) (f + 1) (r - 1) (by omega)
        rw [show r - 1 + 1 = r by omega] at this
        exact this)
      have p3 := ih.c3 (m - 1) f r (by omega)
      rw [show m - r = a + 1 by omega, show m - (r + 1) = a by omega, show ((a + 1 : Nat) : Int) = (a : Int) + 1 by omega, show ((r + 1 : Nat) : Int) = (r : Int) + 1 by omega, Int.add_mul, Int.add_mul, Int.one_mul, Int.one_mul]
      omega
theorem word_by {r : Int × Int} {f : Int} : word r f = Str.ofString "by" ↔ f ≤ r.1 := by
  unfold word
  by_cases h : f ≤ r.1
  · rw [if_pos h]; exact ⟨fun _ => h, fun _ => rfl⟩
  · rw [if_neg h]
    refine ⟨fun z => ?_, fun z => absurd z h⟩
    split at z
    · exact absurd z (by decide +kernel)
    · exact absurd z (by decide +kernel)
theorem word_open {r : Int × Int} {f : Int} : word r f = Str.ofString "open" ↔ ¬ f ≤ r.1 ∧ ¬ r.2 ≤ f := by
  unfold word
  by_cases h : f ≤ r.1
  · rw [if_pos h]; exact ⟨fun z => absurd z (by decide +kernel), fun z => absurd h z.1⟩
  · rw [if_neg h]
    by_cases h2 : r.2 ≤ f
    · rw [if_pos h2]; exact ⟨fun z => absurd z (by decide +kernel), fun z => absurd h2 z.2⟩
    · rw [if_neg h2]; exact ⟨fun _ => ⟨h, h2⟩, fun _ => rfl⟩
theorem aft_nn {lot bad : Int} (l1 : lot ≤ 24) (b0 : 0 ≤ bad) (b1 : bad ≤ lot) : ∀ {rows : List (Int × Int)} {k f : Int}, Gat lot bad k f → 0 ≤ f → f ≤ k → aft wBy lot bad k rows f * (fct (bad - f).toNat * fct ((lot - k) - (bad - f)).toNat) = nnf rows (lot - k).toNat f (bad - f).toNat := by
  intro rows
  induction rows with
  | nil => intro k f _ _ _; rw [aft, nnf, Int.zero_mul]
  | cons r rows ih =>
    intro k f hG h0 h1
    have g1 := hG.1
    have g2 := hG.2
    rw [aft, if_pos ⟨hG, h0, h1⟩, nnf]
    by_cases w : word r f = Str.ofString "open"
    · have w' := word_open.mp w
      rw [if_pos w, if_neg w'.1, if_neg w'.2]
      obtain ⟨m, hm⟩ : ∃ m : Nat, lot - k = m := ⟨(lot - k).toNat, by omega⟩
      obtain ⟨r', hr⟩ : ∃ r' : Nat, bad - f = r' := ⟨(bad - f).toNat, by omega⟩
      have e1 : aft wBy lot bad (k + 1) rows f * (fct r' * fct (m - r')) = ((m - r' : Nat) : Int) * nnf rows (m - 1) f r' := by
        by_cases hG' : Gat lot bad (k + 1) f
        · have g3 := hG'.2
          obtain ⟨d, hd⟩ : ∃ d, m - r' = d + 1 := ⟨m - r' - 1, by omega⟩
          have := ih hG' h0 (by omega)
          rw [show (bad - f).toNat = r' by omega, show (lot - (k + 1) - (bad - f)).toNat = d by omega, show (lot - (k + 1)).toNat = m - 1 by omega] at this
          rw [← this, hd, show fct (d + 1) = ((d : Int) + 1) * fct d from rfl, show ((d + 1 : Nat) : Int) = (d : Int) + 1 by omega, Int.mul_left_comm (fct r'), Int.mul_left_comm]
        · have hG2 : ¬ (f ≤ bad ∧ k + 1 - f ≤ lot - bad) := hG'
          rw [show m - r' = 0 by omega, show ((0 : Nat) : Int) = 0 from rfl, Int.zero_mul, show aft wBy lot bad (k + 1) rows f = 0 by
            cases rows with
            | nil => rfl
            | cons s l => rw [aft, if_neg fun z => hG' z.1], Int.zero_mul]
      have e2 : aft wBy lot bad (k + 1) rows (f + 1) * (fct r' * fct (m - r')) = (r' : Int) * nnf rows (m - 1) (f + 1) (r' - 1) := by
        by_cases hG' : Gat lot bad (k + 1) (f + 1)
        · have g3 := hG'.1
          obtain ⟨d, hd⟩ : ∃ d, r' = d + 1 := ⟨r' - 1, by omega⟩
          have := ih hG' (by omega) (by omega)
          rw [show (bad - (f + 1)).toNat = d by omega, show (lot - (k + 1) - (bad - (f + 1))).toNat = m - r' by omega, show (lot - (k + 1)).toNat = m - 1 by omega] at this
          rw [hd, Nat.add_sub_cancel, ← this, hd, show fct (d + 1) = ((d : Int) + 1) * fct d from rfl, show ((d + 1 : Nat) : Int) = (d : Int) + 1 by omega, Int.mul_assoc ((d : Int) + 1), Int.mul_left_comm]
        · have hG2 : ¬ (f + 1 ≤ bad ∧ k + 1 - (f + 1) ≤ lot - bad) := hG'
          rw [show r' = 0 by omega, show ((0 : Nat) : Int) = 0 from rfl, Int.zero_mul, show aft wBy lot bad (k + 1) rows (f + 1) = 0 by
            cases rows with
            | nil => rfl
            | cons s l => rw [aft, if_neg fun z => hG' z.1], Int.zero_mul]
      rw [show (bad - f).toNat = r' by omega, show (lot - k - (bad - f)).toNat = m - r' by omega, show (lot - k).toNat = m by omega, Int.add_mul, e1, e2]
    · rw [if_neg w]
      obtain ⟨m, hm⟩ : ∃ m : Nat, lot - k = m := ⟨(lot - k).toNat, by omega⟩
      by_cases h2 : f ≤ r.1
      · rw [if_pos h2, show wBy k (word r f) = 1 from if_pos (word_by.mpr h2), Int.mul_one, hm, chs_ch (by omega), show ((m : Int) - (bad - f)).toNat = m - (bad - f).toNat by omega, ch_fct (by omega), show (m : Int).toNat = m by omega]
      · have h3 : r.2 ≤ f := by
          by_cases h3 : r.2 ≤ f
          · exact h3
          · exact absurd (word_open.mpr ⟨h2, h3⟩) w
        rw [if_neg h2, if_pos h3, show wBy k (word r f) = 0 from if_neg fun z => h2 (word_by.mp z), Int.mul_zero, Int.zero_mul]
/-- the root, as a row that is always open ahead of the table -/
theorem root_nn {lot bad : Int} {rows : List (Int × Int)} (hl : 1 ≤ lot) (l1 : lot ≤ 24) (b0 : 0 ≤ bad) (b1 : bad ≤ lot) : root wBy lot bad rows * (fct bad.toNat * fct (lot - bad).toNat) = nnf ((-1, 1) :: rows) lot.toNat 0 bad.toNat := by
  have e := aft_nn (lot := lot) (bad := bad) l1 b0 b1 (rows := (-1, 1) :: rows) (k := 0) (f := 0) ⟨b0, by omega⟩ (by decide) (by decide)
  rw [aft, if_pos ⟨⟨b0, by omega⟩, by decide, by decide⟩, if_pos (word_open.mpr ⟨by decide, by decide⟩)] at e
  rw [Int.sub_zero, Int.sub_zero] at e
  exact e
theorem more_bad {lot bad : Int} {rows : List (Int × Int)} (hl : 1 ≤ lot) (l1 : lot ≤ 24) (b0 : 0 ≤ bad) (b1 : bad + 1 ≤ lot) : root wBy lot (bad + 1) rows * chs lot bad.toNat ≤ root wBy lot bad rows * chs lot (bad + 1).toNat := by
  have r1 := root_nn (rows := rows) hl l1 b0 (show bad ≤ lot by omega)
  have r2 := root_nn (rows := rows) hl l1 (show 0 ≤ bad + 1 by omega) b1
  obtain ⟨n, rfl⟩ : ∃ n : Nat, lot = n := ⟨lot.toNat, by omega⟩
  obtain ⟨b, rfl⟩ : ∃ b : Nat, bad = b := ⟨bad.toNat, by omega⟩
  rw [show ((b : Int) + 1) = ((b + 1 : Nat) : Int) by omega] at *
  rw [Int.toNat_natCast, Int.toNat_natCast] at *
  have c1 := ch_fct (n := n) (k := b) (by omega)
  have c2 := ch_fct (n := n) (k := b + 1) (by omega)
  rw [chs_ch (by omega), chs_ch (by omega)]
  rw [show ((n : Int) - (b : Int)).toNat = n - b by omega] at r1
  rw [show ((n : Int) - ((b + 1 : Nat) : Int)).toNat = n - (b + 1) by omega] at r2
  have hm := (mo ((-1, 1) :: rows)).c1 n 0 b (by omega)
  rw [← r1, ← r2] at hm
  generalize root wBy (n : Int) (b : Int) rows = A at *
  generalize root wBy (n : Int) ((b + 1 : Nat) : Int) rows = B at *
  have fp := fct_pos n
  have p1 : 0 < fct b * fct (n - b) := Int.mul_pos (fct_pos _) (fct_pos _)
  have p2 : 0 < fct (b + 1) * fct (n - (b + 1)) := Int.mul_pos (fct_pos _) (fct_pos _)
  generalize fct b * fct (n - b) = X at *
  generalize fct (b + 1) * fct (n - (b + 1)) = Y at *
  generalize ((ch n b : Nat) : Int) = C at *
  generalize ((ch n (b + 1) : Nat) : Int) = D at *
  -- B Y ≤ A X, C X = D Y = n!
  refine Int.le_of_mul_le_mul_right (a := X * Y) ?_ (Int.mul_pos p1 p2)
  calc B * C * (X * Y) = B * Y * (C * X) := by ac_rfl
    _ ≤ A * X * (C * X) := Int.mul_le_mul_of_nonneg_right hm (by omega)
    _ = A * X * (D * Y) := by rw [c1, c2]
    _ = A * D * (X * Y) := by ac_rfl
theorem wsum_bd (wt : Int → Str → Int) (c : Int) : ∀ l : List Ent, (∀ e ∈ l, 0 ≤ e.2.2.2 ∧ 0 ≤ wt e.1 e.2.2.1 ∧ wt e.1 e.2.2.1 ≤ c) → 0 ≤ wsum wt l ∧ wsum wt l ≤ c * wsum wAll l
  | [], _ => ⟨Int.le_refl _, by show (0 : Int) ≤ c * 0; rw [Int.mul_zero]; exact Int.le_refl _⟩
  | e :: l, h => by
    have ih := wsum_bd wt c l fun x hx => h x (List.mem_cons_of_mem _ hx)
    obtain ⟨h1, h2, h3⟩ := h e (List.mem_cons_self ..)
    have e1 : wsum wt (e :: l) = e.2.2.2 * wt e.1 e.2.2.1 + wsum wt l := by
      unfold wsum
      rw [List.map_cons, List.sum_cons]
    have e2 : wsum wAll (e :: l) = e.2.2.2 + wsum wAll l := by
      unfold wsum
      rw [List.map_cons, List.sum_cons]
      congr 1
      exact Int.mul_one _
    rw [e1, e2, Int.mul_add]
    have m1 : 0 ≤ e.2.2.2 * wt e.1 e.2.2.1 := Int.mul_nonneg h1 h2
    have m2 : e.2.2.2 * wt e.1 e.2.2.1 ≤ e.2.2.2 * c := Int.mul_le_mul_of_nonneg_left h3 h1
    rw [Int.mul_comm c e.2.2.2]
    omega
theorem root_bd {lot bad : Int} {rows : List (Int × Int)} (ho : OkT rows) (l0 : (rows.length : Int) ≤ lot) (l1 : lot ≤ 24) (b0 : 0 ≤ bad) (b1 : bad ≤ lot) : (0 ≤ root wBy lot bad rows ∧ root wBy lot bad rows ≤ chs lot bad.toNat) ∧ 0 ≤ root wLook lot bad rows ∧ root wLook lot bad rows ≤ 24 * chs lot bad.toNat := by
  have hrl := ho.len
  have all := root_all ho l0 l1 b0 b1
  have ec : chs lot bad.toNat = ((ch lot.toNat bad.toNat : Nat) : Int) := by
    obtain ⟨n, rfl⟩ : ∃ n : Nat, lot = n := ⟨lot.toNat, by omega⟩
    rw [chs_ch (by omega), Int.toNat_natCast]
  rw [← root_eq _ hrl] at all
  rw [← root_eq _ hrl, ← root_eq _ hrl, ec, ← all]
  have hb := ends_b l1 b0 b1 (rows := rows) Gk.zero (by omega) (by omega)
  rw [show ((0 : Nat) : Int) + 1 = 1 by rfl] at hb
  have w1 := wsum_bd wBy 1 (ends lot bad 1 g0 rows) fun e he => ⟨(hb e he).2.2.1, by unfold wBy; split <;> decide, by unfold wBy; split <;> decide⟩
  have w2 := wsum_bd wLook 24 (ends lot bad 1 g0 rows) fun e he => ⟨(hb e he).2.2.1, by show 0 ≤ e.1; have := (hb e he).1; omega, (hb e he).2.1⟩
  rw [Int.one_mul] at w1
  exact ⟨w1, w2⟩
/-! ### all sets of places, one by one -/
/-- the wares that the number b tells -/
def bw : Nat → Nat → List Int
  | 0, _ => []
  | n + 1, b => ((b % 2 : Nat) : Int) :: bw n (b / 2)
theorem bw_len : ∀ n b : Nat, (bw n b).length = n
  | 0, _ => rfl
  | n + 1, b => by rw [bw, List.length_cons, bw_len n]
theorem bw_b : ∀ {n b : Nat} {t : Int}, t ∈ bw n b → 0 ≤ t ∧ t ≤ 1
  | 0, _, t, h => by cases h
  | n + 1, b, t, h => by
    rcases List.mem_cons.mp h with rfl | h
    · omega
    · exact bw_b h
theorem bw_eq : ∀ n b : Nat, (List.range n).map (fun i => (((b / 2 ^ i) % 2 : Nat) : Int)) = bw n b
  | 0, _ => rfl
  | n + 1, b => by
    rw [List.range_succ_eq_map, List.map_cons, List.map_map, bw, ← bw_eq n (b / 2)]
    congr 1
    · rw [Nat.pow_zero, Nat.div_one]
    · refine List.map_congr_left fun i _ => ?_
      show (((b / 2 ^ (i + 1)) % 2 : Nat) : Int) = _
      rw [Nat.pow_succ, Nat.mul_comm, Nat.div_div_eq_div_mul]
/-- how many below m -/
def cB (p : Nat → Bool) : Nat → Nat
  | 0 => 0
  | m + 1 => cB p m + (if p m then 1 else 0)
theorem cB_congr {p q : Nat → Bool} : ∀ {m : Nat}, (∀ b, b < m → p b = q b) → cB p m = cB q m
  | 0, _ => rfl
  | m + 1, h => by
    rw [cB, cB, cB_congr (m := m) fun b hb => h b (by omega), h m (by omega)]
theorem cB_two (p : Nat → Bool) : ∀ m, cB p (2 * m) = cB (fun c => p (2 * c)) m + cB (fun c => p (2 * c + 1)) m
  | 0 => rfl
  | m + 1 => by
    have e : 2 * (m + 1) = 2 * m + 1 + 1 := by omega
    rw [e, cB, cB, cB_two p m, cB, cB]
    omega
theorem cB_more {p : Nat → Bool} {m : Nat} : ∀ {n : Nat}, m ≤ n → (∀ b, m ≤ b → b < n → p b = false) → cB p n = cB p m
  | 0, h, _ => by rw [show m = 0 by omega]
  | n + 1, h, z => by
    by_cases e : m = n + 1
    · rw [e]
    · rw [cB, z n (by omega) (by omega), if_neg (by decide), Nat.add_zero]
      exact cB_more (by omega) fun b h1 h2 => z b h1 (by omega)
/-- how many lists of noughts and ones -/
def cn : Nat → (List Int → Bool) → Nat
  | 0, p => if p [] then 1 else 0
  | n + 1, p => cn n (fun l => p (0 :: l)) + cn n (fun l => p (1 :: l))
theorem cB_cn : ∀ (n : Nat) (p : List Int → Bool), cB (fun b => p (bw n b)) (2 ^ n) = cn n p
  | 0, p => by
    show 0 + (if p [] then 1 else 0) = if p [] then 1 else 0
    rw [Nat.zero_add]
  | n + 1, p => by
    rw [Nat.pow_succ, Nat.mul_comm, cB_two, cn, ← cB_cn n, ← cB_cn n]
    congr 1
    · refine cB_congr fun b _ => ?_
      rw [bw, show 2 * b % 2 = 0 by omega, show 2 * b / 2 = b by omega]
      rfl
    · refine cB_congr fun b _ => ?_
      rw [bw, show (2 * b + 1) % 2 = 1 by omega, show (2 * b + 1) / 2 = b by omega]
      rfl
theorem cn_congr {p q : List Int → Bool} : ∀ {n : Nat}, (∀ l : List Int, l.length = n → (∀ t ∈ l, 0 ≤ t ∧ t ≤ 1) → p l = q l) → cn n p = cn n q := fun {n} h => by
  rw [← cB_cn, ← cB_cn]
  exact cB_congr fun b _ => h _ (bw_len n b) fun t ht => bw_b ht
theorem cn_false : ∀ n : Nat, cn n (fun _ => false) = 0
  | 0 => rfl
  | n + 1 => by
    rw [cn, cn_false n]
theorem cn_some {n : Nat} {p : List Int → Bool} (h : cn n p ≠ 0) : ∃ l : List Int, l.length = n ∧ p l = true := by
  refine Classical.byContradiction fun z => h ?_
  rw [cn_congr (q := fun _ => false) fun l hl _ => ?_, cn_false]
  cases e : p l with
  | false => rfl
  | true => exact absurd ⟨l, hl, e⟩ z
theorem sum_bd : ∀ {l : List Int}, (∀ t ∈ l, 0 ≤ t ∧ t ≤ 1) → 0 ≤ l.sum ∧ l.sum ≤ l.length
  | [], _ => by simp
  | t :: l, h => by
    have h1 := h t List.mem_cons_self
    have h2 := sum_bd (l := l) fun u hu => h u (List.mem_cons_of_mem _ hu)
    rw [List.sum_cons, List.length_cons]
    omega
theorem cn_sum : ∀ (n : Nat) (b : Int), cn n (fun l => decide (l.sum = b)) = if 0 ≤ b then ch n b.toNat else 0
  | 0, b => by
    rw [cn, List.sum_nil]
    by_cases e : 0 = b
    · subst e
      rfl
    · rw [decide_eq_false e, if_neg (by decide)]
      by_cases h : 0 ≤ b
      · rw [if_pos h, ch_out (by omega)]
      · rw [if_neg h]
  | n + 1, b => by
    have e0 : (fun l : List Int => decide ((0 :: l).sum = b)) = fun l => decide (l.sum = b) := funext fun l => by rw [List.sum_cons, Int.zero_add]
    have e1 : (fun l : List Int => decide ((1 :: l).sum = b)) = fun l => decide (l.sum = b - 1) := funext fun l => by
      rw [List.sum_cons]
      refine decide_eq_decide.mpr ?_
      omega
    rw [cn, e0, e1, cn_sum n, cn_sum n]
    by_cases h : 0 ≤ b
    · by_cases h1 : 0 ≤ b - 1
      · rw [if_pos h, if_pos h, if_pos h1]
        obtain ⟨m, hm⟩ : ∃ m : Nat, b = (m : Int) + 1 := ⟨(b - 1).toNat, by omega⟩
        rw [show b.toNat = m + 1 by omega, show (b - 1).toNat = m by omega, ch_step]
        omega
      · rw [if_pos h, if_pos h, if_neg h1, show b.toNat = 0 by omega, ch_zero, ch_zero]
    · rw [if_neg h, if_neg h, if_neg (by omega)]
abbrev Key3 := Int × Int × Str
def noE : Key3 := (0, 0, Str.ofString "none")
/-- where it ends, so many looked at and so many found -/
def endK : List (Int × Int) → Int → Int → List Int → Key3
  | [], _, _, _ => noE
  | r :: rows, k, f, l => if word r f = Str.ofString "open" then (match l with
    | [] => noE
    | w :: ws => endK rows (k + 1) (f + w) ws) else (k, f, word r f)
theorem endK_open {r : Int × Int} {rows : List (Int × Int)} {k f w : Int} {ws : List Int} (c : word r f = Str.ofString "open") : endK (r :: rows) k f (w :: ws) = endK rows (k + 1) (f + w) ws := if_pos c
theorem endK_open0 {r : Int × Int} {rows : List (Int × Int)} {k f : Int} (c : word r f = Str.ofString "open") : endK (r :: rows) k f [] = noE := if_pos c
theorem endK_shut {r : Int × Int} {rows : List (Int × Int)} {k f : Int} {l : List Int} (c : word r f ≠ Str.ofString "open") : endK (r :: rows) k f l = (k, f, word r f) := if_neg c
def endF (rows : List (Int × Int)) (k f : Int) : List Int → Key3
  | [] => noE
  | w :: ws => endK rows k (f + w) ws
theorem endF_cons (r : Int × Int) (rows : List (Int × Int)) (k f w : Int) (ws : List Int) : endF (r :: rows) k f (w :: ws) = if word r (f + w) = Str.ofString "open" then endF rows (k + 1) (f + w) ws else (k, f + w, word r (f + w)) := by
  rw [endF]
  by_cases c : word r (f + w) = Str.ofString "open"
  · rw [if_pos c]
    cases ws with
    | nil => exact endK_open0 c
    | cons w' ws => exact endK_open c
  · rw [if_neg c]
    exact endK_shut c
theorem endF_nil (k f : Int) (ws : List Int) : endF [] k f ws = noE := by
  cases ws <;> rfl
theorem endK_word : ∀ {rows : List (Int × Int)} {k f : Int} {l : List Int}, endK rows k f l = noE ∨ ∃ r, rows[((endK rows k f l).1 - k).toNat]? = some r ∧ (endK rows k f l).2.2 = word r (endK rows k f l).2.1 ∧ k ≤ (endK rows k f l).1
  | [], _, _, _ => .inl rfl
  | r :: rows, k, f, l => by
    by_cases c : word r f = Str.ofString "open"
    · cases l with
      | nil =>
        exact .inl (endK_open0 c)
      | cons w ws =>
        have e : endK (r :: rows) k f (w :: ws) = endK rows (k + 1) (f + w) ws := endK_open c
        rw [e]
        refine (endK_word (rows := rows) (k := k + 1) (f := f + w) (l := ws)).imp id ?_
        rintro ⟨r', h1, h2, h3⟩
        refine ⟨r', ?_, h2, by omega⟩
        rw [show ((endK rows (k + 1) (f + w) ws).1 - k).toNat = ((endK rows (k + 1) (f + w) ws).1 - (k + 1)).toNat + 1 by omega, List.getElem?_cons_succ]
        exact h1
    · have e : endK (r :: rows) k f l = (k, f, word r f) := endK_shut c
      rw [e]
      refine .inr ⟨r, ?_, rfl, Int.le_refl _⟩
      rw [show (k - k).toNat = 0 by omega]
      rfl
theorem endF_word {rows : List (Int × Int)} {k f : Int} {l : List Int} : endF rows k f l = noE ∨ ∃ r, rows[((endF rows k f l).1 - k).toNat]? = some r ∧ (endF rows k f l).2.2 = word r (endF rows k f l).2.1 ∧ k ≤ (endF rows k f l).1 := by
  cases l with
  | nil => exact .inl rfl
  | cons w ws => exact endK_word
def ind (k0 f0 : Int) (k f : Int) : Int := if k = k0 ∧ f = f0 then 1 else 0
theorem aftF_cn {lot bad : Int} (l1 : lot ≤ 24) (k0 f0 : Int) : ∀ {rows : List (Int × Int)} {k f : Int}, rows ≠ [] → Shut rows → 0 ≤ f → f ≤ k → k + rows.length - 1 ≤ lot →
    aftF (ind k0 f0) lot bad k rows f = (cn (lot - k).toNat (fun l => decide (l.sum = bad - f ∧ (endK rows k f l).1 = k0 ∧ (endK rows k f l).2.1 = f0)) : Nat) := by
  intro rows
  induction rows with
  | nil => intro k f h; exact absurd rfl h
  | cons r rows ih =>
    intro k f _ hs h0 h1 h2
    rw [List.length_cons] at h2
    rw [aftF]
    by_cases w : word r f = Str.ofString "open"
    · have hne : rows ≠ [] := fun z => by
        subst z
        exact hs.one f w
      obtain ⟨s, rows', rfl⟩ := List.exists_cons_of_ne_nil hne
      rw [List.length_cons] at h2
      obtain ⟨m, hm⟩ : ∃ m : Nat, (lot - k).toNat = m + 1 := ⟨(lot - k).toNat - 1, by omega⟩
      have hm2 : (lot - (k + 1)).toNat = m := by omega
      have i0 := ih (k := k + 1) (f := f) hne hs.tail h0 (by omega) (by rw [List.length_cons]; omega)
      have i1 := ih (k := k + 1) (f := f + 1) hne hs.tail (by omega) (by omega) (by rw [List.length_cons]; omega)
      rw [hm2] at i0 i1
      have e : ∀ c : Int, (fun l : List Int => decide ((c :: l).sum = bad - f ∧ (endK (r :: s :: rows') k f (c :: l)).1 = k0 ∧ (endK (r :: s :: rows') k f (c :: l)).2.1 = f0)) = fun l => decide (l.sum = bad - (f + c) ∧ (endK (s :: rows') (k + 1) (f + c) l).1 = k0 ∧ (endK (s :: rows') (k + 1) (f + c) l).2.1 = f0) := fun c => funext fun l => by
        have e1 : endK (r :: s :: rows') k f (c :: l) = endK (s :: rows') (k + 1) (f + c) l := endK_open w
        rw [e1, List.sum_cons]
        refine decide_eq_decide.mpr ?_
        rw [show c + l.sum = bad - f ↔ l.sum = bad - (f + c) from ⟨fun z => by omega, fun z => by omega⟩]
      rw [hm, cn, e 0, e 1, Int.add_zero, Int.natCast_add, ← i0, ← i1]
      by_cases hG : Gat lot bad k f
      · rw [if_pos ⟨hG, h0, h1⟩, if_pos w]
      · rw [if_neg (fun z => hG z.1)]
        have z : ∀ c : Int, 0 ≤ c → c ≤ 1 → cn m (fun l => decide (l.sum = bad - (f + c) ∧ (endK (s :: rows') (k + 1) (f + c) l).1 = k0 ∧ (endK (s :: rows') (k + 1) (f + c) l).2.1 = f0)) = 0 := fun c c0 c1 => by
          rw [cn_congr (q := fun _ => false) fun l hl ht => ?_, cn_false]
          refine decide_eq_false fun z => hG ?_
          have := sum_bd ht
          have z1 := z.1
          exact ⟨by omega, by omega⟩
        have z0 := z 0 (by decide) (by decide)
        have z1 := z 1 (by decide) (by decide)
        rw [Int.add_zero] at z0
        rw [i0, i1, z0, z1]
        rfl
    · rw [if_neg w]
      have e : (fun l : List Int => decide (l.sum = bad - f ∧ (endK (r :: rows) k f l).1 = k0 ∧ (endK (r :: rows) k f l).2.1 = f0)) = fun l => decide (l.sum = bad - f ∧ k = k0 ∧ f = f0) := funext fun l => by
        have e1 : endK (r :: rows) k f l = (k, f, word r f) := endK_shut w
        rw [e1]
      rw [e]
      by_cases c : k = k0 ∧ f = f0
      · have e2 : (fun l : List Int => decide (l.sum = bad - f ∧ k = k0 ∧ f = f0)) = fun l => decide (l.sum = bad - f) := funext fun l => decide_eq_decide.mpr ⟨fun z => z.1, fun z => ⟨z, c⟩⟩
        rw [e2, cn_sum]
        unfold ind
        rw [if_pos c, Int.mul_one]
        by_cases hG : Gat lot bad k f
        · have g1 := hG.1
          have g2 := hG.2
          rw [if_pos ⟨hG, h0, h1⟩, if_pos (by omega)]
          have := chs_ch (n := (lot - k).toNat) (k := (bad - f).toNat) (by omega)
          rw [← this, show (((lot - k).toNat : Nat) : Int) = lot - k by omega]
        · rw [if_neg (fun z => hG z.1)]
          by_cases z : 0 ≤ bad - f
          · rw [if_pos z, ch_out]
            · rfl
            · refine Classical.byContradiction fun y => hG ⟨by omega, by omega⟩
          · rw [if_neg z]
            rfl
      · have e2 : (fun l : List Int => decide (l.sum = bad - f ∧ k = k0 ∧ f = f0)) = fun _ => false := funext fun l => decide_eq_false fun z => c z.2
        rw [e2, cn_false]
        unfold ind
        rw [if_neg c, Int.mul_zero]
        split <;> rfl
theorem rootF_cn {lot bad : Int} {rows : List (Int × Int)} (ho : OkT rows) (l0 : (rows.length : Int) ≤ lot) (l1 : lot ≤ 24) (k0 f0 : Int) :
    rootF (ind k0 f0) lot bad rows = (cn lot.toNat (fun l => decide (l.sum = bad ∧ (endF rows 1 0 l).1 = k0 ∧ (endF rows 1 0 l).2.1 = f0)) : Nat) := by
  have hl := ho.lenpos
  have hne : rows ≠ [] := fun z => by
    rw [z] at hl
    exact absurd hl (by decide)
  have hs : Shut rows := by
    obtain ⟨ini, l, e, h⟩ := ho.last
    exact ⟨ini, l, e, h⟩
  obtain ⟨m, hm⟩ : ∃ m : Nat, lot.toNat = m + 1 := ⟨lot.toNat - 1, by omega⟩
  have i0 := aftF_cn (bad := bad) l1 k0 f0 (rows := rows) (k := 1) (f := 0) hne hs (by decide) (by decide) (by omega)
  have i1 := aftF_cn (bad := bad) l1 k0 f0 (rows := rows) (k := 1) (f := 1) hne hs (by decide) (by decide) (by omega)
  rw [show (lot - 1).toNat = m by omega] at i0 i1
  have e : ∀ c : Int, (fun l : List Int => decide ((c :: l).sum = bad ∧ (endF rows 1 0 (c :: l)).1 = k0 ∧ (endF rows 1 0 (c :: l)).2.1 = f0)) = fun l => decide (l.sum = bad - c ∧ (endK rows 1 c l).1 = k0 ∧ (endK rows 1 c l).2.1 = f0) := fun c => funext fun l => by
    rw [endF, Int.zero_add, List.sum_cons]
    refine decide_eq_decide.mpr ?_
    rw [show c + l.sum = bad ↔ l.sum = bad - c from ⟨fun z => by omega, fun z => by omega⟩]
  rw [hm, cn, e 0, e 1, Int.natCast_add, ← i0, ← i1]
  rfl
/-! ### the endings: rising, each once -/
def e2 (e : Ent) : Int × Int := (e.1, e.2.1)
theorem ends_at {lot bad : Int} : ∀ {rows : List (Int × Int)} {k : Int} {g : Int → Int}, ∀ e ∈ ends lot bad k g rows, ∃ r, rows[(e.1 - k).toNat]? = some r ∧ e.2.2.1 = word r e.2.1 ∧ k ≤ e.1 := by
  intro rows
  induction rows with
  | nil => intro k g e he; cases he
  | cons r rows ih =>
    intro k g e he
    rw [ends] at he
    rcases List.mem_append.mp he with he | he
    · obtain ⟨f, hf, h1⟩ := List.mem_filterMap.mp he
      unfold ent1 at h1
      split at h1
      · cases h1
      · cases h1
        refine ⟨r, ?_, rfl, Int.le_refl _⟩
        show (r :: rows)[(k - k).toNat]? = some r
        rw [show (k - k).toNat = 0 by omega]
        rfl
    · obtain ⟨r', h1, h2, h3⟩ := ih e he
      refine ⟨r', ?_, h2, by omega⟩
      rw [show (e.1 - k).toNat = (e.1 - (k + 1)).toNat + 1 by omega, List.getElem?_cons_succ]
      exact h1
theorem ends_up {lot bad : Int} : ∀ {rows : List (Int × Int)} {k : Int} {g : Int → Int}, (ends lot bad k g rows).Pairwise fun a b => SrtO.lexB (e2 a) (e2 b) = true := by
  intro rows
  induction rows with
  | nil => intro k g; exact .nil
  | cons r rows ih =>
    intro k g
    rw [ends]
    refine List.pairwise_append.mpr ⟨?_, ih, fun a ha b hb => ?_⟩
    · refine List.Pairwise.filterMap _ (fun x y hxy a ha b hb => ?_) ((upN_lt 25).filter _)
      unfold ent1 at ha hb
      split at ha
      · cases ha
      · split at hb
        · cases hb
        · cases ha
          cases hb
          exact SrtO.lexB_iff.mpr (.inr ⟨rfl, hxy⟩)
    · obtain ⟨f, hf, h1⟩ := List.mem_filterMap.mp ha
      obtain ⟨_, _, _, h3⟩ := ends_at b hb
      unfold ent1 at h1
      split at h1
      · cases h1
      · cases h1
        refine SrtO.lexB_iff.mpr (.inl ?_)
        show k < b.1
        omega
theorem ends_pos {lot bad : Int} (l1 : lot ≤ 24) : ∀ {rows : List (Int × Int)} {k : Nat} {g : Int → Int}, Gk k g → k + rows.length ≤ 24 → (k : Int) + rows.length ≤ lot → ∀ e ∈ ends lot bad (k + 1) g rows, 0 < e.2.2.2 := by
  intro rows
  induction rows with
  | nil => intro k g _ _ _ e he; cases he
  | cons r rows ih =>
    intro k g hg hk hk2 e he
    rw [List.length_cons] at hk hk2
    rw [ends] at he
    have hg' := hg.pre lot bad ((k : Int) + 1)
    rcases List.mem_append.mp he with he | he
    · obtain ⟨f, hf, h1⟩ := List.mem_filterMap.mp he
      have hf' := (keysOf_mem.mp hf).2
      unfold ent1 at h1
      split at h1
      · cases h1
      · cases h1
        have hG : Gat lot bad ((k : Int) + 1) f := by
          unfold pre at hf'
          by_cases hG : Gat lot bad ((k : Int) + 1) f
          · exact hG
          · rw [if_neg hG] at hf'
            exact absurd rfl hf'
        have g1 := hG.1
        have g2 := hG.2
        have hb := hg'.b f
        have hc := (chs_pos (many := lot - ((k : Int) + 1)) (by omega) (k := (bad - f).toNat) (by omega)).1
        exact Int.mul_pos (by omega) (by omega)
    · exact ih (hg'.nx r) (by omega) (by omega) e (by rw [show ((k + 1 : Nat) : Int) + 1 = (k : Int) + 1 + 1 by omega]; exact he)
theorem wsumF_none (k0 f0 : Int) : ∀ {l : List Ent}, (∀ e ∈ l, e2 e ≠ (k0, f0)) → wsumF (ind k0 f0) l = 0
  | [], _ => rfl
  | e :: l, h => by
    have ih := wsumF_none k0 f0 (l := l) fun x hx => h x (List.mem_cons_of_mem _ hx)
    unfold wsumF at ih ⊢
    rw [List.map_cons, List.sum_cons, ih]
    unfold ind
    rw [if_neg fun z => h e List.mem_cons_self (by unfold e2; rw [z.1, z.2])]
    omega
theorem wsumF_one : ∀ {l : List Ent}, l.Pairwise (fun a b => SrtO.lexB (e2 a) (e2 b) = true) → ∀ e ∈ l, wsumF (ind e.1 e.2.1) l = e.2.2.2
  | [], _, e, he => by cases he
  | x :: l, h, e, he => by
    rw [List.pairwise_cons] at h
    have irr : ∀ {a b : Ent}, SrtO.lexB (e2 a) (e2 b) = true → e2 a ≠ e2 b := fun {a b} z w => by
      rw [w] at z
      have := SrtO.lexB_iff.mp z
      omega
    rcases List.mem_cons.mp he with rfl | he
    · have z := wsumF_none e.1 e.2.1 (l := l) fun y hy w => irr (h.1 y hy) w.symm
      unfold wsumF at z ⊢
      rw [List.map_cons, List.sum_cons, z]
      unfold ind
      rw [if_pos ⟨rfl, rfl⟩]
      omega
    · have z := wsumF_one h.2 e he
      unfold wsumF at z ⊢
      rw [List.map_cons, List.sum_cons, z]
      unfold ind
      rw [if_neg fun w => irr (h.1 e he) (by unfold e2; rw [w.1, w.2])]
      omega
/-! ### what the law counts -/
def okB (rows : List (Int × Int)) (lot : Nat) (bad : Int) (key : Key3) (b : Nat) : Bool := decide ((b < 2 ^ lot ∧ (bw lot b).sum = bad) ∧ endF rows 1 0 (bw lot b) = key)
def cE (rows : List (Int × Int)) (lot : Nat) (bad : Int) (key : Key3) (m : Nat) : Nat := cB (okB rows lot bad key) m
theorem cE_all {rows : List (Int × Int)} {lot : Nat} {bad : Int} {key : Key3} {m : Nat} (h : 2 ^ lot ≤ m) : cE rows lot bad key m = cn lot (fun l => decide (l.sum = bad ∧ endF rows 1 0 l = key)) := by
  unfold cE
  rw [cB_more h fun b h1 h2 => ?_, ← cB_cn]
  · refine cB_congr fun b hb => ?_
    unfold okB
    refine decide_eq_decide.mpr ⟨fun z => ⟨z.1.2, z.2⟩, fun z => ⟨⟨hb, z.1⟩, z.2⟩⟩
  · unfold okB
    refine decide_eq_false fun z => ?_
    have := z.1.1
    omega
theorem ent_count {rows : List (Int × Int)} {lot : Nat} {bad : Int} (ho : OkT rows) (l0 : rows.length ≤ lot) (l1 : lot ≤ 9) {e : Ent} (he : e ∈ ends lot bad 1 g0 rows) : ((cE rows lot bad (e.1, e.2.1, e.2.2.1) 512 : Nat) : Int) = e.2.2.2 := by
  have hp : 2 ^ lot ≤ 512 := by
    have := Nat.pow_le_pow_right (n := 2) (by decide) l1
    exact this
  have hr := rootF_cn (bad := bad) ho (lot := lot) (by omega) (by omega) e.1 e.2.1
  rw [← rootF_eq _ (by have := ho.len; omega), wsumF_one ends_up e he] at hr
  rw [cE_all hp, hr]
  congr 1
  refine cn_congr fun l hl ht => decide_eq_decide.mpr ?_
  obtain ⟨r, h1, h2, h3⟩ := ends_at e he
  constructor
  · rintro ⟨z1, z2⟩
    rw [z2]
    exact ⟨z1, rfl, rfl⟩
  · rintro ⟨z1, z2, z3⟩
    refine ⟨z1, ?_⟩
    rcases endF_word (rows := rows) (k := 1) (f := 0) (l := l) with w | ⟨r', w1, w2, w3⟩
    · rw [w] at z2
      have : (0 : Int) = e.1 := z2
      omega
    · rw [z2] at w1
      rw [h1] at w1
      cases w1
      have e1 : endF rows 1 0 l = ((endF rows 1 0 l).1, (endF rows 1 0 l).2.1, (endF rows 1 0 l).2.2) := rfl
      rw [e1, w2, z2, z3, h2]
theorem count_ent {rows : List (Int × Int)} {lot : Nat} {bad : Int} (ho : OkT rows) (l0 : rows.length ≤ lot) (l1 : lot ≤ 9) {key : Key3} (h : cE rows lot bad key 512 ≠ 0) : ∃ e ∈ ends lot bad 1 g0 rows, key = (e.1, e.2.1, e.2.2.1) := by
  have hp : 2 ^ lot ≤ 512 := by
    have := Nat.pow_le_pow_right (n := 2) (by decide) l1
    exact this
  rw [cE_all hp] at h
  obtain ⟨l, hl, hq⟩ := cn_some h
  obtain ⟨q1, q2⟩ := of_decide_eq_true hq
  have hr := rootF_cn (bad := bad) ho (lot := lot) (by omega) (by omega) key.1 key.2.1
  have hne : rootF (ind key.1 key.2.1) (lot : Int) bad rows ≠ 0 := fun z => by
    rw [z] at hr
    have hz : cn lot (fun l => decide (l.sum = bad ∧ endF rows 1 0 l = key)) ≤ cn lot (fun l => decide (l.sum = bad ∧ (endF rows 1 0 l).1 = key.1 ∧ (endF rows 1 0 l).2.1 = key.2.1)) := by
      have mono : ∀ (n : Nat) (p q : List Int → Bool), (∀ l, p l = true → q l = true) → cn n p ≤ cn n q := by
        intro n
        induction n with
        | zero =>
          intro p q h
          show (if p [] then 1 else 0) ≤ if q [] then 1 else 0
          cases e : p [] with
          | false => simp
          | true => rw [h _ e]; exact Nat.le_refl _
        | succ n ih =>
          intro p q h
          rw [cn, cn]
          exact Nat.add_le_add (ih _ _ fun l => h _) (ih _ _ fun l => h _)
      refine mono _ _ _ fun l hl => ?_
      obtain ⟨w1, w2⟩ := of_decide_eq_true hl
      refine decide_eq_true ⟨w1, ?_⟩
      rw [w2]
      exact ⟨rfl, rfl⟩
    rw [show ((lot : Int)).toNat = lot by omega] at hr
    omega
  rw [← rootF_eq _ (by have := ho.len; omega)] at hne
  obtain ⟨e, he, ee⟩ : ∃ e ∈ ends (lot : Int) bad 1 g0 rows, e2 e = (key.1, key.2.1) := Classical.byContradiction fun z => hne (wsumF_none _ _ fun e he w => z ⟨e, he, w⟩)
  refine ⟨e, he, ?_⟩
  have ek : e.1 = key.1 := congrArg Prod.fst ee
  have ef : e.2.1 = key.2.1 := congrArg Prod.snd ee
  obtain ⟨r, h1, h2, h3⟩ := ends_at e he
  rcases endF_word (rows := rows) (k := 1) (f := 0) (l := l) with w | ⟨r', w1, w2, w3⟩
  · rw [w] at q2
    have : (0 : Int) = key.1 := congrArg Prod.fst q2
    omega
  · rw [q2, ← ek, h1] at w1
    cases w1
    rw [q2] at w2
    have e1 : key = (key.1, key.2.1, key.2.2) := rfl
    rw [e1, w2, ek, ef, h2, ef]
theorem judge_end {n : Int} (ho : 0 ≤ n) : ∀ (rows : List (Int × Int)) (ws : List Int) (k f : Int), endF rows (k + 1) f ws ≠ noE → judge n (rows.zip ws) k f = ((endF rows (k + 1) f ws).2.2, (endF rows (k + 1) f ws).1)
  | [], ws, k, f, h => absurd (endF_nil _ _ ws) h
  | r :: rows, [], k, f, h => absurd rfl h
  | r :: rows, w :: ws, k, f, h => by
    rw [List.zip_cons_cons, judge]
    rw [endF_cons] at h ⊢
    by_cases c : word r (f + w) = Str.ofString "open"
    · rw [if_pos c] at h
      rw [if_pos c, if_pos c]
      exact judge_end ho rows ws (k + 1) (f + w) h
    · rw [if_neg c, if_neg c]
theorem endF_ne {rows : List (Int × Int)} (hs : Shut rows) : ∀ {k f : Int} {ws : List Int}, rows ≠ [] → 1 ≤ k → rows.length ≤ ws.length → endF rows k f ws ≠ noE := by
  induction rows with
  | nil => intro k f ws h; exact absurd rfl h
  | cons r rows ih =>
    intro k f ws _ hk hl
    cases ws with
    | nil => exact absurd hl (by simp)
    | cons w ws =>
      rw [List.length_cons, List.length_cons] at hl
      rw [endF_cons]
      by_cases c : word r (f + w) = Str.ofString "open"
      · rw [if_pos c]
        have hne : rows ≠ [] := fun z => by
          subst z
          exact hs.one _ c
        obtain ⟨s, rows', rfl⟩ := List.exists_cons_of_ne_nil hne
        exact ih hs.tail hne (by omega) (by omega)
      · rw [if_neg c]
        intro z
        have : k = (0 : Int) := congrArg Prod.fst z
        omega
def sp__law_rows (K : PySem.W.Frag) (mg : Str → Option Value) : Sp := fun vs H Q _ => match vs with | [.int c] => ∀ rows us p H', OkT rows → H p = none → Same H H' → H' p = some (.lst us) → DpAll K (rs (· ≠ p) H') us (rows.map d2) → Q (.ref p) H' | _ => False
theorem q__law_rows {H : Hp} {Q : VK} {E : XK} {c : Int} (q : ∀ rows us p H', OkT rows → H p = none → Same H H' → H' p = some (.lst us) → DpAll K (rs (· ≠ p) H') us (rows.map d2) → Q (.ref p) H') : sp__law_rows K mg [.int c] H Q E := q
local macro_rules | `(tactic| walk_at "op") => `(tactic| with_reducible refine q__law_rows ?_)
theorem c__law_rows (T : Txt K mg) : Cal P w K mg base 2 "_law_rows" (sp__law_rows K mg) := by
  refine T.d__law_rows.cal (k := 1) sc__law_rows (by intro vs H Q E h; unfold sp__law_rows at h; split at h <;> first | rfl | exact h.elim) fun f cdv A outer s H vs Q E hr h => ?_
  refine ⟨_, (pss_cons (ps_set (i := 1) sc__law_rows.nd rfl (.inl rfl) (pe_op op_addA pe_int (pe_op op_mod (pe_c (c__law_mixed T) hr (by decide) (by rfl) (pa_cons (pv 0) (pa_cons pe_int pa_nil))) pe_int)))
    (pss_cons (ps_set (i := 2) sc__law_rows.nd rfl (.inl rfl) (pe_op op_mod (pe_c (c__law_mixed T) hr (by decide) (by rfl) (pa_cons (pv 0) (pa_cons pe_int pa_nil))) pe_int))
    (pss_cons (ps_set (i := 3) sc__law_rows.nd rfl (.inl rfl) (pe_lst pa_nil))
    (pss_cons (ps_for PassesOwn.never rfl (pi_range1 (by rfl) T.n_range (pa_cons (pv 1) pa_nil)) (pg_name (i := 4) sc__law_rows.nd rfl (.inl rfl))
    (pss_cons (ps_set (i := 5) sc__law_rows.nd rfl (.inl rfl) (pe_c (c__law_mixed T) hr (by decide) (by rfl) (pa_cons (pv 0) (pa_cons (pe_op op_addA pe_int (pv 4)) pa_nil))))
    (pss_cons (ps_set (i := 6) sc__law_rows.nd rfl (.inl rfl) (pe_op op_sub (pe_op op_mod (pv 5) pe_int) pe_int))
    (Evl.pss_cut (ps_if (pt_cmpR op_gt (pv 2) pe_int (nomark _))
    (pss_one (ps_set (i := 6) sc__law_rows.nd rfl (.inl rfl) (pe_callB (call_min2A rfl) (by rfl) T.n_min (by decide +kernel) (pa_cons pe_int (pa_cons (pe_op op_addA (pe_op op_sub (pe_op op_fdivW (pv 4) (pe_op op_addA pe_int (pe_op op_mod (pe_op op_fdivW (pe_c (c__law_mixed T) hr (by decide) (by rfl) (pa_cons (pv 0) (pa_cons pe_int pa_nil))) pe_int) pe_int))) pe_int) (pe_op op_mod (pv 5) pe_int)) pa_nil)))))
    pss_nil)
    (pss_cons (ps_set (i := 7) sc__law_rows.nd rfl (.inl rfl) (pe_op op_addA (pe_op op_addA (pv 6) pe_int) (pe_op op_mod (pe_op op_fdivW (pv 5) pe_int) (pe_op op_sub pe_int (pv 6)))))
    (Evl.pss_cut (ps_if (pt_cmpR op_gt (pv 2) pe_int (nomark _))
    (pss_one (ps_set (i := 7) sc__law_rows.nd rfl (.inl rfl) (pe_callB (call_min2A rfl) (by rfl) T.n_min (by decide +kernel) (pa_cons pe_int (pa_cons (pe_op op_addA (pe_op op_addA (pv 6) pe_int) (pe_op op_mod (pe_op op_fdivW (pv 5) pe_int) pe_int)) pa_nil)))))
    pss_nil)
    (pss_one (ps_expr (pe_bm PySem.F.plainAttrs_list PySem.F.slot_list_append PySem.F.type_list_append mt_append (pv 3) (pa_cons (pe_tup (pa_cons (pv 6) (pa_cons (pv 7) pa_nil))) pa_nil))))))))))
    (pss_cons (ps_asg (pe_tup (pa_cons (pe_ix ix_seq (pe_ix ix_seq (pv 3) (pe_un un_neg pe_int) (fun _ _ => rfl)) pe_int (fun _ _ => rfl)) (pa_cons (pe_op op_addA (pe_ix ix_seq (pe_ix ix_seq (pv 3) (pe_un un_neg pe_int) (fun _ _ => rfl)) pe_int (fun _ _ => rfl)) pe_int) pa_nil))) (pg_sub (pv 3) (pe_un un_neg pe_int) set_list))
    (pss_one (ps_ret (pv 3)))))))), ?_⟩
  try simp only [cxOf_K, cxOf_K', cxOf_mg, cxOf_mg']
  unfold sp__law_rows at h
  split at h
  case h_2 => exact h.elim
  rename_i c
  rw [show L2.start ["_law_cell_here", "_law_many", "_law_way", "_law_rows_here", "_law_k", "_law_number", "_law_let", "_law_turn"] [V.int c] = [some (V.int c), none, none, none, none, none, none, none] from rfl]
  walk_at "sts"
  refine ⟨by decide, by decide, fun r0 a0 a1 => ?_⟩
  walk_at "sa"
  refine ⟨by decide, by decide, fun r1 b0 b1 => ?_⟩
  walk_at "sa"
  walk_at "nw"
  rename_i p hp H1 s1 e1
  walk_at "sa"
  refine L_r1 (by omega) (by omega) ?_
  generalize hn : (1 + r0 % 24).toNat = n
  have hn1 : 1 ≤ n ∧ n ≤ 24 := by omega
  refine f_range (fun i σ' H' => ∃ (rows : List (Int × Int)) (us : List V) (v4 v5 v6 v7 : Option V), σ' = [some (.int c), some (.int (1 + r0 % 24)), some (.int (r1 % 3)), some (.ref p), v4, v5, v6, v7] ∧ Same H H' ∧ H' p = some (.lst us) ∧ DpAll K (rs (· ≠ p) H') us (rows.map d2) ∧ rows.length = i ∧ ∀ r ∈ rows, OkR r) ⟨[], [], _, _, _, _, rfl, s1, e1, .nil, rfl, by simp⟩ ?_ ?_
  · rintro i σ' H2 hi ⟨rows, us, v4, v5, v6, v7, rfl, s2, e2, hA, hl, hok⟩
    walk_at "sts"
    refine ⟨by omega, by omega, fun r2 c0 c1 => ?_⟩
    walk_at "sa"
    refine L_cut (Mid := fun σ' H' => H' = H2 ∧ ∃ lt : Int, -1 ≤ lt ∧ lt ≤ 24 ∧ σ' = [some (.int c), some (.int (1 + r0 % 24)), some (.int (r1 % 3)), some (.ref p), some (.int (0 + (i : Int))), some (.int r2), some (.int lt), v7]) ?_ ?_
    · walk_at "sts"
      refine L_d (fun _ => ?_) (fun _ => ?_)
      · walk_at "sts"
        refine ⟨by decide, by decide, fun r3 d0 d1 => ?_⟩
        have e0 := Int.emod_nonneg (r3 / 3) (show (4 : Int) ≠ 0 by decide)
        have f0 : 0 ≤ (0 + (i : Int)) / (2 + r3 / 3 % 4) := Int.ediv_nonneg (by omega) (by omega)
        walk_at "sa"
        exact ⟨rfl, _, by omega, by omega, rfl⟩
      · walk_at "sts"
        exact ⟨rfl, _, by omega, by omega, rfl⟩
    · rintro σ' H3 ⟨rfl, lt, l0, l1, rfl⟩
      walk_at "sa"
      have g0 := Int.emod_nonneg (r2 / 32) (show (25 - lt : Int) ≠ 0 by omega)
      have g1 := Int.emod_lt_of_pos (r2 / 32) (show (0 : Int) < 25 - lt by omega)
      generalize r2 / 32 % (25 - lt) = y at g0 g1
      refine L_cut (Mid := fun σ' H' => H' = H3 ∧ ∃ tn : Int, lt < tn ∧ tn ≤ 25 ∧ σ' = [some (.int c), some (.int (1 + r0 % 24)), some (.int (r1 % 3)), some (.ref p), some (.int (0 + (i : Int))), some (.int r2), some (.int lt), some (.int tn)]) ?_ ?_
      · walk_at "sts"
        refine L_d (fun _ => ?_) (fun _ => ?_)
        · walk_at "sa"
          exact ⟨rfl, _, by omega, by omega, rfl⟩
        · walk_at "sts"
          exact ⟨rfl, _, by omega, by omega, rfl⟩
      · rintro σ' H4 ⟨rfl, tn, t0, t1, rfl⟩
        walk_at "sts"
        refine L_tyL (.of e2) ?_
        walk_at "sts"
        walk_at "nw"
        rename_i p5 hp5 H5 s5 e5
        walk_at "sts"
        have hul := hA.len
        rw [List.length_map] at hul
        refine L_app (s5 _ _ e2) (sz_lt (by omega)) ?_
        walk_at "sts"
        refine ⟨rows ++ [(lt, tn)], _, _, _, _, _, rfl, same_mut (s2.trans s5) hp, upd_same, ?_, by simp [hl], fun r hr => ?_⟩
        · rw [List.map_append]
          exact dp_grow hA s5 (dp_tupN e5 (ne_new hp5 ⟨_, e2⟩) (by walk_at "dpa"))
        · rcases List.mem_append.mp hr with hr | hr
          · exact hok r hr
          · rw [List.mem_singleton.mp hr]
            exact ⟨l0, l1, by show 0 ≤ tn; omega, t1, t0⟩
  · rintro σ' H2 ⟨rows, us, v4, v5, v6, v7, rfl, s2, e2, hA, hl, hok⟩
    have hul := hA.len
    rw [List.length_map] at hul
    obtain ⟨ini, l, rfl⟩ : ∃ ini l, rows = ini ++ [l] := ⟨rows.dropLast, rows.getLast (by intro z; rw [z] at hl; simp at hl; omega), (List.dropLast_concat_getLast _).symm⟩
    have hin : ini.length + 1 = n := by rw [← hl]; simp
    obtain ⟨ui, ul, rfl⟩ : ∃ ui ul, us = ui ++ [ul] := ⟨us.dropLast, us.getLast (by intro z; rw [z] at hul; simp at hul), (List.dropLast_concat_getLast _).symm⟩
    have hui : ui.length = ini.length := by simpa using hul
    obtain ⟨r', t, hr', ht, hRT⟩ := hit2 hA (i := ui.length) (x := ul) (by simp)
    have hrl : r' = l := by
      rw [hui] at hr'
      simpa using hr'.symm
    subst hrl
    subst ht
    have hRT2 : SqT K H2 t [.int r'.1, .int r'.2] := rs_sub.seqT hRT
    have ol := hok r' (by simp)
    walk_at "sts"
    refine L_ixL (.of e2) (atI_last ui _) ?_
    walk_at "sts"
    refine L_ixT hRT2 (by rfl) ?_
    walk_at "sts"
    refine L_ixL (.of e2) (atI_last ui _) ?_
    walk_at "sts"
    refine L_ixT hRT2 (by rfl) ?_
    walk_at "sts"
    walk_at "nw"
    rename_i p5 hp5 H5 s5 e5
    walk_at "sts"
    refine L_setL (s5 _ _ e2) (j := ui.length) ?_ ?_
    · unfold ixN
      rw [if_neg (by decide), if_pos (by simp; omega)]
      simp
      omega
    walk_at "sts"
    have hset : (ui ++ [V.ref t]).set ui.length (V.ref p5) = ui ++ [V.ref p5] := by simp
    rw [hset]
    have hA' : DpAll K (rs (· ≠ p) H2) ui (ini.map d2) := by
      rw [List.map_append] at hA
      exact (dpa_app hA (by simp [hui])).1
    refine h (ini ++ [(r'.1, r'.1 + 1)]) _ p _ ⟨by simp; omega, fun r hr => ?_, ini, _, rfl, rfl⟩ hp (same_mut (s2.trans s5) hp) upd_same ?_
    · rcases List.mem_append.mp hr with hr | hr
      · exact hok r (List.mem_append_left _ hr)
      · rw [List.mem_singleton.mp hr]
        obtain ⟨o1, o2, o3, o4, o5⟩ := ol
        exact ⟨o1, o2, by show 0 ≤ r'.1 + 1; omega, by show r'.1 + 1 ≤ 25; omega, by show r'.1 < r'.1 + 1; omega⟩
    · rw [List.map_append]
      exact dp_grow hA' s5 (dp_tupN e5 (ne_new hp5 ⟨_, e2⟩) (by walk_at "dpa"))
theorem same_made {H : Hp} {x dx C : Addr} (nx : H x = none) (nd : H dx = none) (ne : dx ≠ x) : Same H (upd (upd H dx (.own x)) x (.ins C dx [])) :=
  (same_new nd).trans (same_new (by rw [upd_ne ne.symm]; exact nx))
def sp__law_word (K : PySem.W.Frag) (mg : Str → Option Value) : Sp := fun vs H Q _ => match vs with | [.ref a, .int k, .int f] => ∃ (us : List V) (rows : List (Int × Int)) (r : Int × Int), H a = some (.lst us) ∧ DpAll K H us (rows.map d2) ∧ 1 ≤ k ∧ rows[(k - 1).toNat]? = some r ∧ Q (.str (word r f)) H | _ => False
theorem q__law_word {H : Hp} {Q : VK} {E : XK} {a : Addr} {k : Int} {f : Int} (q : ∃ (us : List V) (rows : List (Int × Int)) (r : Int × Int), H a = some (.lst us) ∧ DpAll K H us (rows.map d2) ∧ 1 ≤ k ∧ rows[(k - 1).toNat]? = some r ∧ Q (.str (word r f)) H) : sp__law_word K mg [.ref a, .int k, .int f] H Q E := q
local macro_rules | `(tactic| walk_at "op") => `(tactic| with_reducible refine q__law_word ?_)
theorem c__law_word (T : Txt K mg) : Cal P w K mg base 1 "_law_word" (sp__law_word K mg) := by
  refine T.d__law_word.cal (k := 0) sc__law_word (by intro vs H Q E h; unfold sp__law_word at h; split at h <;> first | rfl | exact h.elim) fun f cdv A outer s H vs Q E hr h => ?_
  refine ⟨_, (pss_cons (ps_if (pt_cmpR op_leA (pv 2) (pe_ix ix_seq (pe_ix ix_seq (pv 0) (pe_op op_sub (pv 1) pe_int) (fun _ _ => rfl)) pe_int (fun _ _ => rfl)) (nomark _))
    (pss_one (ps_ret pe_str))
    pss_nil)
    (pss_cons (ps_if (pt_cmpR op_ge (pv 2) (pe_ix ix_seq (pe_ix ix_seq (pv 0) (pe_op op_sub (pv 1) pe_int) (fun _ _ => rfl)) pe_int (fun _ _ => rfl)) (nomark _))
    (pss_one (ps_ret pe_str))
    pss_nil)
    (pss_one (ps_ret pe_str)))), ?_⟩
  try simp only [cxOf_K, cxOf_K', cxOf_mg, cxOf_mg']
  unfold sp__law_word at h
  split at h
  case h_2 => exact h.elim
  rename_i a k f
  rw [show L2.start ["_law_rows_here", "_law_looked", "_law_found"] [V.ref a, V.int k, V.int f] = [some (V.ref a), some (V.int k), some (V.int f)] from rfl]
  obtain ⟨us, rows, r, hp, hA, hk, hr, q⟩ := h
  have hul := hA.len
  rw [List.length_map] at hul
  have hi := (List.getElem?_eq_some_iff.mp hr).1
  obtain ⟨r', t, hr', ht, hRT⟩ := hit2 hA (List.getElem?_eq_getElem (show (k - 1).toNat < us.length by omega))
  rw [hr] at hr'
  cases hr'
  unfold word at q
  walk_at "sts"
  refine L_ixL (.of hp) (atI_int (by omega) (List.getElem?_eq_getElem (show (k - 1).toNat < us.length by omega))) ?_
  rw [ht]
  walk_at "sts"
  refine L_ixT hRT (by rfl) ?_
  walk_at "sts"
  refine L_d (fun c1 => ?_) (fun c1 => ?_)
  · rw [if_pos c1] at q
    walk_at "sts"
    exact q
  rw [if_neg c1] at q
  walk_at "sts"
  refine L_ixL (.of hp) (atI_int (by omega) (List.getElem?_eq_getElem (show (k - 1).toNat < us.length by omega))) ?_
  rw [ht]
  walk_at "sts"
  refine L_ixT hRT (by rfl) ?_
  walk_at "sts"
  refine L_d (fun c2 => ?_) (fun c2 => ?_)
  · rw [if_pos c2] at q
    walk_at "sts"
    exact q
  rw [if_neg c2] at q
  walk_at "sts"
  exact q
def sp__law_lowest (K : PySem.W.Frag) (mg : Str → Option Value) : Sp := fun vs H Q _ => match vs with | [.int t, .int b] => 0 ≤ t ∧ 0 < b ∧ Bd 2000 t ∧ Bd 2000 b ∧ NewT H [.int (low t b).1, .int (low t b).2] Q | _ => False
theorem q__law_lowest {H : Hp} {Q : VK} {E : XK} {t : Int} {b : Int} (q : 0 ≤ t ∧ 0 < b ∧ Bd 2000 t ∧ Bd 2000 b ∧ NewT H [.int (low t b).1, .int (low t b).2] Q) : sp__law_lowest K mg [.int t, .int b] H Q E := q
local macro_rules | `(tactic| walk_at "op") => `(tactic| with_reducible refine q__law_lowest ?_)
theorem c__law_lowest (T : Txt K mg) : Cal P w K mg base 1 "_law_lowest" (sp__law_lowest K mg) := by
  refine T.d__law_lowest.cal (k := 0) sc__law_lowest (by intro vs H Q E h; unfold sp__law_lowest at h; split at h <;> first | rfl | exact h.elim) fun f cdv A outer s H vs Q E hr h => ?_
  refine ⟨_, (pss_cons (ps_par (i := 2) (j := 3) rfl sc__law_lowest.nd rfl rfl (by decide) rfl rfl (pa_cons (pv 0) (pa_cons (pv 1) pa_nil)) (by rfl))
    (pss_cons (ps_while PassesOwn.never (pt_cmpR (op_neA hr) (pv 3) pe_int (nomark _))
    (pss_one (ps_par (i := 2) (j := 3) rfl sc__law_lowest.nd rfl rfl (by decide) rfl rfl (pa_cons (pv 3) (pa_cons (pe_op op_mod (pv 2) (pv 3)) pa_nil)) (by rfl))))
    (pss_one (ps_ret (pe_tup (pa_cons (pe_op op_fdivW (pv 0) (pv 2)) (pa_cons (pe_op op_fdivW (pv 1) (pv 2)) pa_nil))))))), ?_⟩
  try simp only [cxOf_K, cxOf_K', cxOf_mg, cxOf_mg']
  unfold sp__law_lowest at h
  split at h
  case h_2 => exact h.elim
  rename_i t b
  rw [show L2.start ["_law_top", "_law_bottom", "_law_one", "_law_other"] [V.int t, V.int b] = [some (V.int t), some (V.int b), none, none] from rfl]
  obtain ⟨ht, hb, hdt, hd, q⟩ := h
  have key : CDivW t (gc t b) ∧ CDivW b (gc t b) := by
    have g := gc_pos (a := t) hb
    have l := gc_le (a := t) hb
    have z : Bd 2000 (gc t b) := by
      unfold Bd at *
      omega
    exact ⟨z.cdiv g, z.cdiv g⟩
  have g := gc_pos (a := t) hb
  walk_at "sts"
  refine L_while (fun m σ' H' => ∃ x y : Int, σ' = [some (.int t), some (.int b), some (.int x), some (.int y)] ∧ 0 ≤ x ∧ 0 ≤ y ∧ gc x y = gc t b ∧ m = y.toNat ∧ H' = H) ⟨_, _, b, rfl, ht, by omega, rfl, rfl, rfl⟩ ?_
  rintro m σ' H' ⟨x, y, rfl, hx, hy, e, rfl, rfl⟩
  walk_at "sts"
  refine L_nd (fun c => ?_) (fun c => ?_)
  · refine L_N ?_
    walk_at "sts"
    refine L_I (show 0 < y by omega) ?_
    walk_at "sts"
    have h1 := Int.emod_nonneg x (show y ≠ 0 by omega)
    have h2 := Int.emod_lt_of_pos x (show 0 < y by omega)
    exact ⟨(x % y).toNat, by omega, y, x % y, rfl, by omega, h1, (gc_step (by omega)).trans e, rfl, rfl⟩
  · subst c
    have hx2 : x = gc t b := by
      rw [← e, ← gc_zero, if_neg (by omega)]
    subst hx2
    walk_at "sts"
    refine L_I key.1 ?_
    walk_at "sts"
    refine L_I key.2 ?_
    walk_at "sts"
    exact L_new (sz_dec (by show 2 ≤ 1000000; decide)) q.at
def sp__law_end (K : PySem.W.Frag) (mg : Str → Option Value) : Sp := fun vs H Q _ => match vs with | [.ref a, .ref b] => ∃ (us : List V) (rows : List (Int × Int)) (ws : List Int), H a = some (.lst us) ∧ DpAll K H us (rows.map d2) ∧ H b = some (.lst (ws.map V.int)) ∧ rows.length ≤ ws.length ∧ rows.length ≤ 24 ∧ ∀ H1, Same H H1 → NewT H1 [.int (endF rows 1 0 ws).1, .int (endF rows 1 0 ws).2.1, .str (endF rows 1 0 ws).2.2] Q | _ => False
theorem q__law_end {H : Hp} {Q : VK} {E : XK} {a : Addr} {b : Addr} (q : ∃ (us : List V) (rows : List (Int × Int)) (ws : List Int), H a = some (.lst us) ∧ DpAll K H us (rows.map d2) ∧ H b = some (.lst (ws.map V.int)) ∧ rows.length ≤ ws.length ∧ rows.length ≤ 24 ∧ ∀ H1, Same H H1 → NewT H1 [.int (endF rows 1 0 ws).1, .int (endF rows 1 0 ws).2.1, .str (endF rows 1 0 ws).2.2] Q) : sp__law_end K mg [.ref a, .ref b] H Q E := q
local macro_rules | `(tactic| walk_at "op") => `(tactic| with_reducible refine q__law_end ?_)
theorem c__law_end (T : Txt K mg) : Cal P w K mg base 2 "_law_end" (sp__law_end K mg) := by
  refine T.d__law_end.cal (k := 1) sc__law_end (by intro vs H Q E h; unfold sp__law_end at h; split at h <;> first | rfl | exact h.elim) fun f cdv A outer s H vs Q E hr h => ?_
  refine ⟨_, (pss_cons (ps_set (i := 2) sc__law_end.nd rfl (.inl rfl) pe_int)
    (pss_cons (ps_for PassesOwn.never rfl (pi_enum (by rfl) T.n_enumerate (pa_cons (pv 0) pa_nil)) (pg_tup rfl (pgs_cons (pg_name (i := 3) sc__law_end.nd rfl (.inl rfl)) (pgs_cons (pg_name (i := 4) sc__law_end.nd rfl (.inl rfl)) pgs_nil)))
    (pss_cons (ps_set (i := 2) sc__law_end.nd rfl (.inl rfl) (pe_op op_addA (pv 2) (pe_ix ix_seq (pv 1) (pv 3) (fun _ _ => rfl))))
    (pss_one (ps_if (pt_cmpR (op_neA hr) (pe_c (c__law_word T) hr (by decide) (by rfl) (pa_cons (pv 0) (pa_cons (pe_op op_addA (pv 3) pe_int) (pa_cons (pv 2) pa_nil)))) pe_str (nomark _))
    (pss_one (ps_ret (pe_tup (pa_cons (pe_op op_addA (pv 3) pe_int) (pa_cons (pv 2) (pa_cons (pe_c (c__law_word T) hr (by decide) (by rfl) (pa_cons (pv 0) (pa_cons (pe_op op_addA (pv 3) pe_int) (pa_cons (pv 2) pa_nil)))) pa_nil))))))
    pss_nil))))
    (pss_one (ps_ret (pe_tup (pa_cons pe_int (pa_cons pe_int (pa_cons pe_str pa_nil)))))))), ?_⟩
  try simp only [cxOf_K, cxOf_K', cxOf_mg, cxOf_mg']
  unfold sp__law_end at h
  split at h
  case h_2 => exact h.elim
  rename_i a b
  rw [show L2.start ["_law_rows_here", "_law_wares", "_law_found", "_law_k", "_law_row"] [V.ref a, V.ref b] = [some (V.ref a), some (V.ref b), none, none, none] from rfl]
  obtain ⟨us, rows, ws, ha, hA, hb, hl, hl2, q⟩ := h
  have hul := hA.len
  rw [List.length_map] at hul
  walk_at "sts"
  refine L_re (.of ha) ?_
  refine f_it walk_enum (fun i σ' H' => Same H H' ∧ ∃ (f : Int) (v3 v4 : Option V), σ' = [some (.ref a), some (.ref b), some (.int f), v3, v4] ∧ endF rows 1 0 ws = endF (rows.drop i) ((i : Int) + 1) f (ws.drop i)) ⟨Same.refl _, 0, _, _, rfl, rfl⟩ (fun _ _ _ _ p => p.1.seq (.of ha)) ?_ ?_
  · rintro i x1 σ' H4 H4' hi ⟨s4, f, v3, v4, rfl, hj⟩ ⟨T1, k0, t0, rfl, hT, rfl, hk, hx1⟩
    cases hk
    have hiw : i < ws.length := by omega
    have hir : i < rows.length := by omega
    rw [List.drop_eq_getElem_cons hir, List.drop_eq_getElem_cons hiw, endF_cons] at hj
    refine L_gTup (.of upd_same) rfl ?_
    have s4b := same_upd (o := HO.tup [V.int (i : Int), t0]) s4 hT
    generalize upd H4 T1 (HO.tup [V.int (i : Int), t0]) = H5 at s4b
    walk_at "sts"
    refine L_ixL (.of (s4b _ _ hb)) (atI_ints (by omega) (by omega)) ?_
    rw [show ((i : Int)).toNat = i by omega, getD_of (List.getElem?_eq_getElem hiw)]
    walk_at "sts"
    refine ⟨us, rows, rows[i], s4b _ _ ha, hA.same s4b, by omega, by rw [show ((i : Int) + 1 - 1).toNat = i by omega]; exact List.getElem?_eq_getElem hir, ?_⟩
    walk_at "sts"
    refine L_nd (fun c => ?_) (fun c => ?_)
    · rw [if_neg c] at hj
      rw [hj] at q
      walk_at "sts"
      refine ⟨us, rows, rows[i], s4b _ _ ha, hA.same s4b, by omega, by rw [show ((i : Int) + 1 - 1).toNat = i by omega]; exact List.getElem?_eq_getElem hir, ?_⟩
      walk_at "sts"
      exact L_nw ((q _ s4b).at)
    · rw [if_pos c] at hj
      walk_at "sts"
      exact ⟨s4b, _, _, _, rfl, hj⟩
  · rintro σ' H4 ⟨s4, f, v3, v4, rfl, hj⟩
    rw [List.drop_of_length_le (by omega), endF_nil] at hj
    rw [hj] at q
    walk_at "sts"
    exact L_nw ((q _ s4).at)
def sp__law_kinds (K : PySem.W.Frag) (mg : Str → Option Value) : Sp := fun vs H Q _ => match vs with | [.ref a] => ∃ (us : List V) (es : List Ent), H a = some (.lst us) ∧ DpAll K H us (es.map d4e) ∧ Q (.bl true) H | _ => False
theorem q__law_kinds {H : Hp} {Q : VK} {E : XK} {a : Addr} (q : ∃ (us : List V) (es : List Ent), H a = some (.lst us) ∧ DpAll K H us (es.map d4e) ∧ Q (.bl true) H) : sp__law_kinds K mg [.ref a] H Q E := q
local macro_rules | `(tactic| walk_at "op") => `(tactic| with_reducible refine q__law_kinds ?_)
theorem c__law_kinds (T : Txt K mg) : Cal P w K mg base 1 "_law_kinds" (sp__law_kinds K mg) := by
  refine T.d__law_kinds.cal (k := 0) sc__law_kinds (by intro vs H Q E h; unfold sp__law_kinds at h; split at h <;> first | rfl | exact h.elim) fun f cdv A outer s H vs Q E hr h => ?_
  refine ⟨_, (pss_cons (ps_for PassesOwn.never rfl (pi_list (pv 0)) (pg_name (i := 1) sc__law_kinds.nd rfl (.inl rfl))
    (pss_cons (ps_if (PW.pt (pw_or (pt_not (pt_val (pe_callB call_isi (by rfl) T.n_isinstance (by decide +kernel) (pa_cons (pv 1) (pa_cons (pe_ty "tuple" (by rfl) T.n_tuple (by decide +kernel)) pa_nil))))) (pw_or (pt_cmpR (op_neA hr) (pe_callB call_lenA (by rfl) T.n_len (by decide +kernel) (pa_cons (pv 1) pa_nil)) pe_int (nomark _)) (pw_or1 (pt_not (pt_val (pe_callB call_isi (by rfl) T.n_isinstance (by decide +kernel) (pa_cons (pe_ix ix_seq (pv 1) pe_int (fun _ _ => rfl)) (pa_cons (pe_ty "str" (by rfl) T.n_str (by decide +kernel)) pa_nil)))))))))
    (pss_one (ps_ret pe_bl))
    pss_nil)
    (pss_one (ps_if (PW.pt (pw_or (pt_val (pe_callB call_isi (by rfl) T.n_isinstance (by decide +kernel) (pa_cons (pe_ix ix_seq (pv 1) pe_int (fun _ _ => rfl)) (pa_cons (pe_ty "bool" (by rfl) T.n_bool (by decide +kernel)) pa_nil)))) (pw_or (pt_val (pe_callB call_isi (by rfl) T.n_isinstance (by decide +kernel) (pa_cons (pe_ix ix_seq (pv 1) pe_int (fun _ _ => rfl)) (pa_cons (pe_ty "bool" (by rfl) T.n_bool (by decide +kernel)) pa_nil)))) (pw_or1 (pt_val (pe_callB call_isi (by rfl) T.n_isinstance (by decide +kernel) (pa_cons (pe_ix ix_seq (pv 1) pe_int (fun _ _ => rfl)) (pa_cons (pe_ty "bool" (by rfl) T.n_bool (by decide +kernel)) pa_nil))))))))
    (pss_one (ps_ret pe_bl))
    pss_nil))))
    (pss_one (ps_ret (pe_callB call_isi (by rfl) T.n_isinstance (by decide +kernel) (pa_cons (pv 0) (pa_cons (pe_ty "list" (by rfl) T.n_list (by decide +kernel)) pa_nil)))))), ?_⟩
  try simp only [cxOf_K, cxOf_K', cxOf_mg, cxOf_mg']
  unfold sp__law_kinds at h
  split at h
  case h_2 => exact h.elim
  rename_i a
  rw [show L2.start ["_law_told", "_law_row"] [V.ref a] = [some (V.ref a), none] from rfl]
  obtain ⟨us, es, ha, hA, q⟩ := h
  have hL : SqL K H a us := .of ha
  walk_at "sts"
  refine L_rl (.of ha) ?_
  refine f_it walk_list (fun i σ' H' => H' = H ∧ ∃ v, σ' = [some (.ref a), v]) ⟨rfl, _, rfl⟩ (fun _ _ _ _ p => p.1 ▸ hL) ?_ ?_
  · rintro i x σ' H' H'' hi ⟨rfl, v, rfl⟩ ⟨rfl, e⟩
    obtain ⟨en, t, he, rfl, hT⟩ := hit4e hA e
    walk_at "sts"
    refine L_isi (tyx_T hT) (b := true) (by decide +kernel) ?_
    walk_at "sts"
    refine L_lenT hT ?_
    walk_at "sts"
    refine L_ndF (p := _ = (4 : Int)) rfl ?_
    walk_at "sts"
    refine L_ixT hT rfl ?_
    walk_at "sts"
    refine L_isi (.base (.str _)) (b := true) (by decide +kernel) ?_
    walk_at "sts"
    refine L_ixT hT rfl ?_
    walk_at "sts"
    refine L_isi (.base (.int _)) (b := false) (by decide +kernel) ?_
    walk_at "sts"
    refine L_ixT hT rfl ?_
    walk_at "sts"
    refine L_isi (.base (.int _)) (b := false) (by decide +kernel) ?_
    walk_at "sts"
    refine L_ixT hT rfl ?_
    walk_at "sts"
    refine L_isi (.base (.int _)) (b := false) (by decide +kernel) ?_
    walk_at "sts"
    exact ⟨rfl, _, rfl⟩
  · rintro σ' H' ⟨rfl, v, rfl⟩
    walk_at "sts"
    refine L_isi (tyx_L (.of ha)) (b := true) (by decide +kernel) ?_
    exact q
def toK (k : Key3) : List L2.Key := [Sum.inl k.1, Sum.inl k.2.1, Sum.inr k.2.2]
theorem toK_inj {a b : Key3} (h : toK a = toK b) : a = b := by
  unfold toK at h
  injection h with h1 h2
  injection h2 with h2 h3
  injection h3 with h3 _
  exact Prod.ext (Sum.inl.inj h1) (Prod.ext (Sum.inl.inj h2) (Sum.inr.inj h3))
def cv (n : Nat) : Option V := if n = 0 then none else some (.int (n : Int))
theorem putK_keys {κ : Type} [DecidableEq κ] {kvs : List (κ × V)} {k : κ} {v : V} : (putK kvs k v).map (·.1) = if valV kvs k = none then kvs.map (·.1) ++ [k] else kvs.map (·.1) := by
  by_cases h : valV kvs k = none
  · rw [putK_new _ h, if_pos h, List.map_append]
    rfl
  · rw [if_neg h]
    unfold putK
    rw [valV_any, if_pos (by cases e : valV kvs k with
      | none => exact absurd e h
      | some x => rfl), List.map_map]
    refine List.map_congr_left fun p _ => ?_
    show (if p.1 = k then (p.1, v) else p).1 = p.1
    split <;> rfl
/-- the dict of the endings met -/
structure Ed (kvs : List (List L2.Key × V)) (c : Key3 → Nat) : Prop where
  nd : (kvs.map (·.1)).Nodup
  ks : ∀ p ∈ kvs.map (·.1), ∃ key, p = toK key
  vl : ∀ key, valV kvs (toK key) = cv (c key)
theorem Ed.put {kvs : List (List L2.Key × V)} {c : Key3 → Nat} (h : Ed kvs c) (key : Key3) : Ed (putK kvs (toK key) (.int ((c key : Nat) + 1 : Int))) (fun x => c x + if key = x then 1 else 0) := by
  refine ⟨?_, fun p hp => ?_, fun x => ?_⟩
  · rw [putK_keys]
    split
    · rename_i e
      exact List.nodup_append.mpr ⟨h.nd, by simp, fun a ha b hb => by
        rw [List.mem_singleton.mp hb]
        exact fun z => valV_not e (z ▸ ha)⟩
    · exact h.nd
  · rw [putK_keys] at hp
    split at hp
    · rcases List.mem_append.mp hp with hp | hp
      · exact h.ks p hp
      · exact ⟨key, List.mem_singleton.mp hp⟩
    · exact h.ks p hp
  · rw [valV_put]
    by_cases e : key = x
    · subst e
      rw [if_pos rfl, if_pos rfl]
      unfold cv
      rw [if_neg (Nat.succ_ne_zero _)]
      rfl
    · rw [if_neg fun z => e (toK_inj z).symm, if_neg e, Nat.add_zero]
      exact h.vl x
theorem Ed.get {kvs : List (List L2.Key × V)} {c : Key3 → Nat} (h : Ed kvs c) (key : Key3) : (valV kvs (toK key)).getD (.int 0) = .int (c key : Nat) := by
  rw [h.vl]
  unfold cv
  split
  · rename_i e
    rw [e]
    rfl
  · rfl
theorem cE_succ {rows : List (Int × Int)} {lot : Nat} {bad : Int} {key : Key3} {b : Nat} : cE rows lot bad key (b + 1) = cE rows lot bad key b + if okB rows lot bad key b then 1 else 0 := rfl
def eKey (e : Ent) : Key3 := (e.1, e.2.1, e.2.2.1)
theorem word_ok (r : Int × Int) (f : Int) : PyData.strOk (word r f) = true := by
  unfold word
  split
  · decide +kernel
  · split <;> decide +kernel
theorem ends_ok {lot bad : Int} : ∀ {rows : List (Int × Int)} {k : Int} {g : Int → Int}, ∀ e ∈ ends lot bad k g rows, PyData.strOk e.2.2.1 = true := by
  intro rows
  induction rows with
  | nil => intro k g e he; cases he
  | cons r rows ih =>
    intro k g e he
    rw [ends] at he
    rcases List.mem_append.mp he with he | he
    · obtain ⟨f, _, h1⟩ := List.mem_filterMap.mp he
      unfold ent1 at h1
      split at h1
      · cases h1
      · cases h1
        exact word_ok r f
    · exact ih e he
theorem shp_ends {l : List Ent} (h : ∀ e ∈ l, PyData.strOk e.2.2.1 = true) : SeqAt.shaped (.list (l.map d4e)) = true := (shp_lst (n := 1) fun d hd => by
  obtain ⟨e, he, rfl⟩ := List.mem_map.mp hd
  exact shp_tup (n := 0) (shp_cons shp_int (shp_cons shp_int (shp_cons (shp_str (h e he)) (shp_cons shp_int shp_nil))))).ok
theorem shr_low {t b : Int} (h : 0 < b) : shr t b = low t b := if_neg (by omega)
theorem ent_word {lot bad : Int} {rows : List (Int × Int)} {e e' : Ent} (h : e ∈ ends lot bad 1 g0 rows) (h' : e' ∈ ends lot bad 1 g0 rows) (h1 : e.1 = e'.1) (h2 : e.2.1 = e'.2.1) : eKey e = eKey e' := by
  obtain ⟨r, a1, a2, a3⟩ := ends_at e h
  obtain ⟨r', b1, b2, b3⟩ := ends_at e' h'
  rw [h1, b1] at a1
  cases a1
  unfold eKey
  rw [h1, h2, a2, b2, h2]
theorem keys_form {rows : List (Int × Int)} {n : Nat} {bad : Int} {kvs : List (List L2.Key × V)} (hE : Ed kvs fun key => cE rows n bad key 512) (ho : OkT rows) (l0 : rows.length ≤ n) (l1 : n ≤ 9) {p : List L2.Key} : p ∈ kvs.map (·.1) → ∃ e ∈ ends (n : Int) bad 1 g0 rows, p = toK (eKey e) := fun hp => by
  obtain ⟨key, rfl⟩ := hE.ks p hp
  have h1 : valV kvs (toK key) ≠ none := fun z => valV_not z hp
  rw [hE.vl] at h1
  have h2 : cE rows n bad key 512 ≠ 0 := fun z => h1 (by unfold cv; rw [if_pos z])
  obtain ⟨e, he, ek⟩ := count_ent ho l0 l1 h2
  exact ⟨e, he, by rw [ek]; rfl⟩
theorem due_val {rows : List (Int × Int)} {n : Nat} {bad : Int} {kvs : List (List L2.Key × V)} (hE : Ed kvs fun key => cE rows n bad key 512) (ho : OkT rows) (l0 : rows.length ≤ n) (l1 : n ≤ 9) {e : Ent} (he : e ∈ ends (n : Int) bad 1 g0 rows) : valV kvs (toK (eKey e)) = some (.int e.2.2.2) := by
  have hc := ent_count ho l0 l1 he
  have hp := ends_pos (lot := n) (bad := bad) (by omega) (rows := rows) (k := 0) Gk.zero (by have := ho.len; omega) (by omega) e (by rw [show ((0 : Nat) : Int) + 1 = 1 by rfl]; exact he)
  rw [hE.vl]
  unfold cv eKey
  rw [if_neg (by omega), hc]
theorem due_keys {rows : List (Int × Int)} {n : Nat} {bad : Int} {kvs : List (List L2.Key × V)} (hE : Ed kvs fun key => cE rows n bad key 512) (ho : OkT rows) (l0 : rows.length ≤ n) (l1 : n ≤ 9) {L : List (List L2.Key)} (hp : L.Perm (kvs.map (·.1))) (hs : SrtO.Srtd ltTwo L) :
    L = (ends (n : Int) bad 1 g0 rows).map fun e => toK (eKey e) := by
  have up : ((ends (n : Int) bad 1 g0 rows).map fun e => toK (eKey e)).Pairwise fun a b => ltTwo a b = true := List.pairwise_map.mpr (ends_up.imp fun h => h)
  have nd : ((ends (n : Int) bad 1 g0 rows).map fun e => toK (eKey e)).Nodup := up.imp fun {a b} h z => by
    rw [z, swo_two.refl] at h
    cases h
  have pm : L.Perm ((ends (n : Int) bad 1 g0 rows).map fun e => toK (eKey e)) := hp.trans ((List.perm_ext_iff_of_nodup hE.nd nd).mpr fun x => by
    constructor
    · intro h
      obtain ⟨e, he, rfl⟩ := keys_form hE ho l0 l1 h
      exact List.mem_map.mpr ⟨e, he, rfl⟩
    · intro h
      obtain ⟨e, he, rfl⟩ := List.mem_map.mp h
      exact valV_in (due_val hE ho l0 l1 he))
  refine pm.eq_of_pairwise (le := fun a b => ltTwo b a = false) (fun a b ha hb h1 h2 => ?_) hs (up.imp fun {a b} h => swo_two.asym _ _ h)
  obtain ⟨e, he, rfl⟩ := List.mem_map.mp (pm.mem_iff.mp ha)
  obtain ⟨e', he', rfl⟩ := List.mem_map.mp hb
  have g1 := SrtO.lexB_no.mp h1
  have g2 := SrtO.lexB_no.mp h2
  have f1 : ¬ (e'.1 < e.1 ∨ (e'.1 = e.1 ∧ e'.2.1 < e.2.1)) := g1
  have f2 : ¬ (e.1 < e'.1 ∨ (e.1 = e'.1 ∧ e.2.1 < e'.2.1)) := g2
  exact congrArg toK (ent_word he he' (by omega) (by omega))
def sp__law_right (K : PySem.W.Frag) (mg : Str → Option Value) : Sp := fun vs H Q _ => match vs with | [.ref a, .int lot, .int bad] => ∃ us rows, H a = some (.lst us) ∧ DpAll K H us (rows.map d2) ∧ OkT rows ∧ (rows.length : Int) ≤ lot ∧ lot ≤ 9 ∧ 0 ≤ bad ∧ bad ≤ lot ∧ ∀ H', Same H H' → Q (.bl true) H' | _ => False
theorem q__law_right {H : Hp} {Q : VK} {E : XK} {a : Addr} {lot : Int} {bad : Int} (q : ∃ us rows, H a = some (.lst us) ∧ DpAll K H us (rows.map d2) ∧ OkT rows ∧ (rows.length : Int) ≤ lot ∧ lot ≤ 9 ∧ 0 ≤ bad ∧ bad ≤ lot ∧ ∀ H', Same H H' → Q (.bl true) H') : sp__law_right K mg [.ref a, .int lot, .int bad] H Q E := q
local macro_rules | `(tactic| walk_at "op") => `(tactic| with_reducible refine q__law_right ?_)
theorem c__law_right (T : Txt K mg) : Cal P w K mg base 6 "_law_right" (sp__law_right K mg) := by
  refine T.d__law_right.cal (k := 5) sc__law_right (by intro vs H Q E h; unfold sp__law_right at h; split at h <;> first | rfl | exact h.elim) fun f cdv A outer s H vs Q E hr h => ?_
  refine ⟨_, (pss_cons (ps_set (i := 3) sc__law_right.nd rfl (.inl rfl) (pe_xMk (m_Looks T) hr (by decide) (by rfl) (fun σ => passN σ) (pa_cons (pe_callTy call_list1A (by rfl) T.n_list (by decide +kernel) (pa_cons (pv 0) pa_nil)) pa_nil)))
    (pss_cons (ps_set (i := 4) sc__law_right.nd rfl (.inr rfl) pe_dnewT)
    (pss_cons (ps_for PassesOwn.never rfl (pi_range1 (by rfl) T.n_range (pa_cons (pe_op op_pow pe_int pe_int) pa_nil)) (pg_name (i := 5) sc__law_right.nd rfl (.inr rfl))
    (pss_cons (ps_setLc (i := 6) (own := [("_law_k", 13)]) (g := (gName 13)) (tt := tYes) (te := (tOp (rI0 fun i j => .int (Builtin.bitAnd i j)) (tOp (rI (fun _ j => 0 ≤ j) fun i j => .int (i / 2 ^ j.toNat)) (tVar 5) (tVar 13)) (tC (.int 1)))) rfl sc__law_right.nd rfl rfl (sw_true rfl rfl rfl (by decide +kernel)) (pi_range1 (by rfl) T.n_range (pa_cons (pv 1) pa_nil)) (blkOk_by (N := ["_law_rows_here", "_law_lot", "_law_bad", "_law_looks", "_law_ends", "_law_bits", "_law_wares", "_law_end_here", "_law_due", "_law_told", "_law_every", "_law_good", "_law_looked", "_law_k", "_law_row"]) (sc := defScope s__law_right) (by decide +kernel)) (fun _ _ _ _ _ => by exact (pg_name (i := 13) sc__law_right.nd rfl (.inl rfl))) (fun _ _ _ _ _ => pts_nil) (fun _ _ _ _ _ => by exact (pe_op op_and (pe_op op_shr (pv 5) (pv 13)) pe_int)))
    (pss_one (ps_if (PW.pt (pw_and (pt_cmpR op_ltA (pv 5) (pe_op op_shl pe_int (pv 1)) (nomark _)) (pw_and1 (pt_cmpR (op_eqA hr) (pe_callB (cr_sum rfl) (by rfl) T.n_sum (by decide +kernel) (pa_cons (pv 6) pa_nil)) (pv 2) (nomark _)))))
    (pss_cons (ps_set (i := 7) sc__law_right.nd rfl (.inl rfl) (pe_c (c__law_end T) hr (by decide) (by rfl) (pa_cons (pv 0) (pa_cons (pv 6) pa_nil))))
    (pss_cons (ps_dput (hu_of hr) (pv 4) (pv 7) (pe_op op_addA (pe_dget2 (hu_of hr) (pv 4) (pv 7) pe_int ⟨rfl, rfl, rfl, rfl⟩) pe_int) rfl)
    (pss_one (ps_if (pt_cmpR (op_neA hr) (pe_xMt (c_Looks_judged T) hr (by decide) (fun σ => passN σ) (pv 3) (pa_cons (pv 6) pa_nil)) (pe_tup (pa_cons (pe_ix ix_seq (pv 7) pe_int (fun _ _ => rfl)) (pa_cons (pe_ix ix_seq (pv 7) pe_int (fun _ _ => rfl)) pa_nil))) (nomark _))
    (pss_one (ps_ret pe_bl))
    pss_nil))))
    pss_nil))))
    (pss_cons (ps_setLc (i := 8) (own := [("_law_end_here", 7)]) (g := (gName 7)) (tt := tYes) (te := (tOp (aAdd K) (tVar 7) (tTup (tCons (tDGet (tVar 4) (tVar 7)) tNil)))) rfl sc__law_right.nd rfl rfl (sw_true rfl rfl rfl (by decide +kernel)) (pi_list (pe_callB (cr_sortedDT rfl swo_two) (by rfl) T.n_sorted (by decide +kernel) (pa_cons (pv 4) pa_nil))) (blkOk_by (N := ["_law_rows_here", "_law_lot", "_law_bad", "_law_looks", "_law_ends", "_law_bits", "_law_wares", "_law_end_here", "_law_due", "_law_told", "_law_every", "_law_good", "_law_looked", "_law_k", "_law_row"]) (sc := defScope s__law_right) (by decide +kernel)) (fun _ _ _ _ _ => by exact (pg_name (i := 7) sc__law_right.nd rfl (.inl rfl))) (fun _ _ _ _ _ => pts_nil) (fun _ _ _ _ _ => by exact (pe_op op_addA (pv 7) (pe_tup (pa_cons (pe_dget (hu_of hr) (pv 4) (pv 7) (fun _ _ => rfl)) pa_nil)))))
    (pss_cons (ps_set (i := 9) sc__law_right.nd rfl (.inl rfl) (pe_xMt (c_Looks_endings T) hr (by decide) (fun σ => passN σ) (pv 3) (pa_cons (pv 1) (pa_cons (pv 2) pa_nil))))
    (pss_cons (ps_if (PW.pt (pw_or (pt_not (pt_val (pe_c (c__law_kinds T) hr (by decide) (by rfl) (pa_cons (pv 9) pa_nil)))) (pw_or1 (pt_cmpR (op_neA hr) (pv 9) (pv 8) (nomark _)))))
    (pss_one (ps_ret pe_bl))
    pss_nil)
    (pss_cons (ps_expr (pe_bm0 PySem.F.plainAttrs_list PySem.F.slot_list_clear PySem.F.type_list_clear mt_clear (pv 9)))
    (pss_cons (ps_set (i := 10) sc__law_right.nd rfl (.inl rfl) (pe_callB (cr_sum rfl) (by rfl) T.n_sum (by decide +kernel) (pa_cons (pe_lc (own := [("_law_row", 14)]) (g := (gName 14)) (tt := tYes) (te := (tOp (rIx K) (tVar 14) (tC (.int 3)))) rfl sc__law_right.nd (pi_list (pv 8)) (blkOk_by (N := ["_law_rows_here", "_law_lot", "_law_bad", "_law_looks", "_law_ends", "_law_bits", "_law_wares", "_law_end_here", "_law_due", "_law_told", "_law_every", "_law_good", "_law_looked", "_law_k", "_law_row"]) (sc := defScope s__law_right) (by decide +kernel)) (fun _ _ _ _ _ => by exact (pg_name (i := 14) sc__law_right.nd rfl (.inl rfl))) (fun _ _ _ _ _ => pts_nil) (fun _ _ _ _ _ => by exact (pe_ix ix_seq (pv 14) pe_int (fun _ _ => rfl)))) pa_nil)))
    (pss_cons (ps_set (i := 11) sc__law_right.nd rfl (.inl rfl) (pe_callB (cr_sum rfl) (by rfl) T.n_sum (by decide +kernel) (pa_cons (pe_lc (own := [("_law_row", 14)]) (g := (gName 14)) (tt := (tTest (tOp (aEq K) (tOp (rIx K) (tVar 14) (tC (.int 2))) (tC (.str "by"))))) (te := (tOp (rIx K) (tVar 14) (tC (.int 3)))) rfl sc__law_right.nd (pi_list (pv 8)) (blkOk_by (N := ["_law_rows_here", "_law_lot", "_law_bad", "_law_looks", "_law_ends", "_law_bits", "_law_wares", "_law_end_here", "_law_due", "_law_told", "_law_every", "_law_good", "_law_looked", "_law_k", "_law_row"]) (sc := defScope s__law_right) (by decide +kernel)) (fun _ _ _ _ _ => by exact (pg_name (i := 14) sc__law_right.nd rfl (.inl rfl))) (fun _ _ _ _ _ => by exact pts_one (pt_cmpR (op_eqA hr) (pe_ix ix_seq (pv 14) pe_int (fun _ _ => rfl)) pe_str (nomark _))) (fun _ _ _ _ _ => by exact (pe_ix ix_seq (pv 14) pe_int (fun _ _ => rfl)))) pa_nil)))
    (pss_cons (ps_set (i := 12) sc__law_right.nd rfl (.inl rfl) (pe_callB (cr_sum rfl) (by rfl) T.n_sum (by decide +kernel) (pa_cons (pe_lc (own := [("_law_row", 14)]) (g := (gName 14)) (tt := tYes) (te := (tOp aMul (tOp (rIx K) (tVar 14) (tC (.int 0))) (tOp (rIx K) (tVar 14) (tC (.int 3))))) rfl sc__law_right.nd (pi_list (pv 8)) (blkOk_by (N := ["_law_rows_here", "_law_lot", "_law_bad", "_law_looks", "_law_ends", "_law_bits", "_law_wares", "_law_end_here", "_law_due", "_law_told", "_law_every", "_law_good", "_law_looked", "_law_k", "_law_row"]) (sc := defScope s__law_right) (by decide +kernel)) (fun _ _ _ _ _ => by exact (pg_name (i := 14) sc__law_right.nd rfl (.inl rfl))) (fun _ _ _ _ _ => pts_nil) (fun _ _ _ _ _ => by exact (pe_op op_mulA (pe_ix ix_seq (pv 14) pe_int (fun _ _ => rfl)) (pe_ix ix_seq (pv 14) pe_int (fun _ _ => rfl))))) pa_nil)))
    (pss_cons (ps_if (PW.pt (pw_or (pt_cmpR (op_neA hr) (pe_xMt (c_Looks_let_by T) hr (by decide) (fun σ => passN σ) (pv 3) (pa_cons (pv 1) (pa_cons (pv 2) pa_nil))) (pe_c (c__law_lowest T) hr (by decide) (by rfl) (pa_cons (pv 11) (pa_cons (pv 10) pa_nil))) (nomark _)) (pw_or1 (pt_cmpR (op_neA hr) (pe_xMt (c_Looks_looked_at T) hr (by decide) (fun σ => passN σ) (pv 3) (pa_cons (pv 1) (pa_cons (pv 2) pa_nil))) (pe_c (c__law_lowest T) hr (by decide) (by rfl) (pa_cons (pv 12) (pa_cons (pv 10) pa_nil))) (nomark _)))))
    (pss_one (ps_ret pe_bl))
    pss_nil)
    (pss_one (ps_ret (pe_cmpR (op_eqA hr) (pe_xMt (c_Looks_endings T) hr (by decide) (fun σ => passN σ) (pv 3) (pa_cons (pv 1) (pa_cons (pv 2) pa_nil))) (pv 8) (nomark _))))))))))))))), ?_⟩
  try simp only [cxOf_K, cxOf_K', cxOf_mg, cxOf_mg']
  unfold sp__law_right at h
  split at h
  case h_2 => exact h.elim
  rename_i a lot bad
  rw [show L2.start ["_law_rows_here", "_law_lot", "_law_bad", "_law_looks", "_law_ends", "_law_bits", "_law_wares", "_law_end_here", "_law_due", "_law_told", "_law_every", "_law_good", "_law_looked", "_law_k", "_law_row"] [V.ref a, V.int lot, V.int bad] = [some (V.ref a), some (V.int lot), some (V.int bad), none, none, none, none, none, none, none, none, none, none, none, none] from rfl]
  obtain ⟨us, rows, ha, hA, ho, l0, l1, b0, b1, q⟩ := h
  have hul := hA.len
  rw [List.length_map] at hul
  have hlp := ho.lenpos
  have hl24 := ho.len
  have hrd : ∀ D ∈ rows.map d2, RowD D := fun D hD => by
    obtain ⟨r, _, rfl⟩ := List.mem_map.mp hD
    exact RowD_d2 r
  obtain ⟨n, rfl⟩ : ∃ n : Nat, lot = (n : Int) := ⟨lot.toNat, by omega⟩
  walk_at "sts"
  refine L_list1 (.of ha) ?_
  walk_at "nwp"
  rename_i p1 hp1 H2 s2 e1
  walk_at "sts"
  intro x dx nx nd ne
  have sx := same_made (C := cA mg "Looks") nx nd ne
  have hA1 := hA.same (s2.trans sx)
  refine ⟨dx, upd_same, .inr ⟨p1, us, _, rfl, .of (sx _ _ e1), hA1, by omega, hrd, fun n e => ?_, fun rows' e ho' p H3 hp k ep ex => ⟨rfl, ?_⟩⟩⟩
  · rw [badT_ok ho] at e
    cases e
  have s13 : Same H H3 := s2.trans (Same.made nx nd k)
  have hx : LK K mg H3 x rows := ⟨dx, p, us, ex, ep, hA.same s13, ho⟩
  walk_at "sts"
  walk_at "nwp"
  rename_i d hd H4 s4 e4
  walk_at "sts"
  refine L_powE (i := 2) (j := 9) (n := 512) (cpow_lit (by decide)) (by decide) ?_
  refine L_r1 (by omega) (by omega) ?_
  refine f_range (fun i σ' H' => ∃ (kvs : List (List Key × V)) (v5 v6 v7 : Option V), σ' = [some (.ref a), some (.int (n : Int)), some (.int bad), some (.ref x), some (.ref d), v5, v6, v7, none, none, none, none, none, none, none] ∧ Same H3 H' ∧ H' d = some (.dT kvs) ∧ Ed kvs (fun key => cE rows n bad key i) ∧ kvs.length ≤ i) ⟨[], _, _, _, rfl, s4, e4, ⟨.nil, (fun _ z => nomatch z), fun _ => rfl⟩, Nat.le_refl _⟩ ?_ ?_
  · rintro i σ' H5 hi ⟨kvs, v5, v6, v7, rfl, s5, e5, hE, hkl⟩
    have hp2 : (2 : Int) ^ n ≤ 512 := by
      have := Nat.pow_le_pow_right (n := 2) (by decide) (show n ≤ 9 by omega)
      have e : ((2 ^ n : Nat) : Int) = 2 ^ n := by norm_cast
      omega
    walk_at "sts"
    refine L_r1 (by omega) (by omega) ?_
    refine lc_fm walk_range (fun k => some (.int (Builtin.bitAnd ((0 + (i : Int)) / 2 ^ (0 + (k : Int)).toNat) 1))) (by omega) (fun _ _ => True.intro) ?_ ?_
    · rintro k x1 Ha Hb R R' hi sm ⟨rfl, rfl⟩ q1 q2
      walk_at "sts"
      refine ⟨rfl, ?_⟩
      walk_at "sts"
      refine L_I (show 0 ≤ _ by omega) ?_
      walk_at "sts"
      exact q1 _ _ rfl (Same.refl _)
    rw [fm_map]
    intro pw H6 hpw s6 ew
    have hws : (List.range ((n : Int)).toNat).map (fun k : Nat => V.int (Builtin.bitAnd ((0 + (i : Int)) / 2 ^ (0 + (k : Int)).toNat) 1)) = (bw n i).map V.int := by
      rw [← bw_eq, List.map_map, show ((n : Int)).toNat = n by omega]
      refine List.map_congr_left fun k _ => ?_
      show V.int _ = V.int _
      have := Bits.bitAnd_mask (x := (0 + (i : Int)) / 2 ^ (0 + (k : Int)).toNat) 1 (Int.ediv_nonneg (by omega) (Int.pow_nonneg (by decide)))
      rw [show (2 : Int) ^ 1 - 1 = 1 by decide, show (2 : Int) ^ 1 = 2 by decide] at this
      rw [this, Int.zero_add, Int.zero_add, Int.toNat_natCast]
      congr 1
    replace ew : H6 pw = some (.lst ((List.range ((n : Int)).toNat).map (fun k : Nat => V.int (Builtin.bitAnd ((0 + (i : Int)) / 2 ^ (0 + (k : Int)).toNat) 1)))) := by rw [ew, List.map_map]; rfl
    rw [hws] at ew
    have hbl := bw_len n i
    have s36 := s5.trans s6
    have hwd : ∀ H', Same H5 H' → H' d = some (.dT kvs) := fun H' z => z _ _ e5
    walk_at "sts"
    refine L_I (C := CPow) ⟨by omega, by omega, by decide⟩ ?_
    rw [Int.one_mul, Int.toNat_natCast]
    walk_at "sts"
    have hs0 : Same H5 H6 := s6
    have stay : ¬ ((i : Int) < 2 ^ n ∧ (bw n i).sum = bad) → Ed kvs fun key => cE rows n bad key (i + 1) := fun z => by
      have e : (fun key => cE rows n bad key (i + 1)) = fun key => cE rows n bad key i := funext fun key => by
        rw [cE_succ, if_neg, Nat.add_zero]
        unfold okB
        intro w
        have w1 := (of_decide_eq_true w).1
        refine z ⟨?_, w1.2⟩
        have := w1.1
        have e : ((2 ^ n : Nat) : Int) = 2 ^ n := by norm_cast
        omega
      rw [e]
      exact hE
    refine L_d (fun c1 => ?_) (fun c1 => ?_)
    · walk_at "sts"
      refine L_sum (.of ew) ?_
      walk_at "sts"
      refine L_d (fun c2 => ?_) (fun c2 => ?_)
      · walk_at "sts"
        refine ⟨us, rows, bw n i, (s13.trans s36) _ _ ha, hA.same (s13.trans s36), ew, by omega, hl24, fun H7 s7 te H8 hte s8 e8 => ?_⟩
        generalize hk : endF rows 1 0 (bw n i) = key at e8
        have s78 := s7.trans s8
        walk_at "sts"
        have d8 := (s6.trans s78) _ _ e5
        have k8 : H8 te = some (.tup ((toK key).map kV)) := e8
        refine L_isdT d8 ?_
        walk_at "sts"
        refine L_dgT d8 k8 ?_
        rw [hE.get]
        walk_at "sts"
        refine L_dputT d8 k8 (by omega) ?_
        have hE2 := hE.put key
        have hE3 : (fun x => cE rows n bad x i + if key = x then 1 else 0) = fun x => cE rows n bad x (i + 1) := funext fun x => by
          rw [cE_succ]
          congr 1
          unfold okB
          have e : ((2 ^ n : Nat) : Int) = 2 ^ n := by norm_cast
          by_cases z : key = x
          · rw [if_pos z, if_pos (decide_eq_true ⟨⟨by omega, c2⟩, hk.trans z⟩)]
          · rw [if_neg z, if_neg fun w => z (hk.symm.trans (of_decide_eq_true w).2)]
        rw [hE3] at hE2
        have hkl2 : (putK kvs (toK key) (.int ((cE rows n bad key i : Nat) + 1 : Int))).length ≤ i + 1 := by
          have := putT_len (kvs := kvs) (k := toK key) (v := .int ((cE rows n bad key i : Nat) + 1 : Int))
          omega
        generalize putK kvs (toK key) (.int ((cE rows n bad key i : Nat) + 1 : Int)) = kvs2 at hE2 hkl2 ⊢
        have hd3 : H3 d = none := hd
        have s38 : Same H3 H8 := s36.trans s78
        have s39 : Same H3 (upd H8 d (.dT kvs2)) := fun b o hb => by
          rw [upd_ne fun z => by rw [z, hd3] at hb; cases hb]
          exact s38 _ _ hb
        have k9 : (upd H8 d (.dT kvs2)) te = some (.tup ((toK key).map kV)) := by
          rw [upd_ne fun z => by rw [z, d8] at k8; cases k8]
          exact k8
        have w9 : (upd H8 d (.dT kvs2)) pw = some (.lst ((bw n i).map V.int)) := by
          rw [upd_ne fun z => by rw [z, (s6 _ _ e5)] at ew; cases ew]
          exact s78 _ _ ew
        have d9 : (upd H8 d (.dT kvs2)) d = some (.dT kvs2) := upd_same
        generalize upd H8 d (.dT kvs2) = H9 at s39 k9 w9 d9 ⊢
        walk_at "sts"
        refine L_methv (s39 _ _ ex) rfl ?_
        walk_at "sts"
        refine ⟨dx, p, us, rows, s39 _ _ ex, s39 _ _ ep, hA.same (s13.trans s39), ho, .inr ⟨bw n i, good_ns w9 (by omega) fun t ht => bw_b ht, fun H10 s10 pj H11 hpj s11 e11 => ?_⟩⟩
        have hs : Shut rows := by
          obtain ⟨ini, l, e, h⟩ := ho.last
          exact ⟨ini, l, e, h⟩
        have hne : rows ≠ [] := fun z => by
          rw [z] at hlp
          exact absurd hlp (by decide)
        have hju := judge_end (n := ((bw n i).length : Int)) (by omega) rows (bw n i) 0 0 (endF_ne hs hne (by decide) (by omega))
        rw [show (0 : Int) + 1 = 1 by rfl, hk] at hju
        rw [hju] at e11
        have s911 := s10.trans s11
        walk_at "sts"
        refine L_ixT (.of (s911 _ _ k9)) (by rfl) ?_
        walk_at "sts"
        refine L_ixT (.of (s911 _ _ k9)) (by rfl) ?_
        walk_at "sts"
        walk_at "nw"
        rename_i pq hpq H12 s12 e12
        have kok : PyData.strOk key.2.2 = true := by
          rcases endF_word (rows := rows) (k := 1) (f := 0) (l := bw n i) with w | ⟨r, _, w, _⟩
          · rw [← hk, w]
            decide +kernel
          · rw [← hk, w]
            exact word_ok _ _
        refine L_neR (d := .tuple [.str key.2.2, .int key.1]) (.tup (.of (s12 _ _ e11)) (by walk_at "dpa")) (.tup (.of e12) (by walk_at "dpa")) (shp_tup (n := 0) (shp_cons (shp_str kok) (shp_cons shp_int shp_nil))).ok ?_
        walk_at "sts"
        exact ⟨_, _, _, _, rfl, s39.trans (s911.trans s12), (s911.trans s12) _ _ d9, hE2, hkl2⟩
      · walk_at "sts"
        exact ⟨kvs, _, _, _, rfl, s36, s6 _ _ e5, stay fun z => c2 z.2, by omega⟩
    · walk_at "sts"
      exact ⟨kvs, _, _, _, rfl, s36, s6 _ _ e5, stay fun z => c1 (by omega), by omega⟩
  · rintro σ' H5 ⟨kvs, v5, v6, v7, rfl, s5, e5, hE, hkl⟩
    have ho' := ho
    have l0' : rows.length ≤ n := by omega
    have l1' : n ≤ 9 := by omega
    walk_at "sts"
    refine ⟨d, kvs, rfl, e5, fun k hk => ?_, fun k hk k' hk' => ?_, fun L ps hperm hsrt hks hps => ?_⟩
    · obtain ⟨e, _, rfl⟩ := keys_form hE ho l0' l1' hk
      exact ⟨_, _, rfl⟩
    · obtain ⟨e, he, rfl⟩ := keys_form hE ho l0' l1' hk
      obtain ⟨e', he', rfl⟩ := keys_form hE ho l0' l1' hk'
      refine ltR_two fun z1 z2 => ?_
      have := ent_word he he' z1 z2
      have e3 : e.2.2.1 = e'.2.2.1 := congrArg (fun k : Key3 => k.2.2) this
      show [Sum.inr e.2.2.1] = [Sum.inr e'.2.2.1]
      rw [e3]
    have hL := due_keys hE ho l0' l1' hperm hsrt
    have hval : ∀ e ∈ ends (n : Int) bad 1 g0 rows, valV kvs (toK (eKey e)) = some (.int e.2.2.2) := fun e he => due_val hE ho l0' l1' he
    have hLl : L.length = (ends (n : Int) bad 1 g0 rows).length := by
      have := congrArg List.length hL
      rwa [List.length_map, List.length_map] at this
    have hLat : ∀ (j : Nat) (y : V), (L.map fun x => V.ref x.1)[j]? = some y → ∃ e qa, (ends (n : Int) bad 1 g0 rows)[j]? = some e ∧ y = .ref qa ∧ H5 qa = some (.tup ((toK (eKey e)).map kV)) := fun j y hy => by
      rw [List.getElem?_map] at hy
      obtain ⟨z, hz, rfl⟩ := Option.map_eq_some_iff.mp hy
      have h2 := congrArg (fun l : List (List L2.Key) => l[j]?) hL
      simp only [List.getElem?_map, hz, Option.map_some] at h2
      obtain ⟨e, he, h3⟩ := Option.map_eq_some_iff.mp h2.symm
      refine ⟨e, z.1, he, rfl, ?_⟩
      rw [h3]
      exact hks z (List.mem_of_getElem? hz)
    have s56 := same_new (o := .lst (L.map fun x => V.ref x.1)) hps
    have e6 : (upd H5 ps (.lst (L.map fun x => V.ref x.1))) ps = some (.lst (L.map fun x => V.ref x.1)) := upd_same
    generalize upd H5 ps (.lst (L.map fun x => V.ref x.1)) = H6 at s56 e6 ⊢
    have hel := ends_len (lot := (n : Int)) (bad := bad) (k := 1) (g := g0) (rows := rows)
    walk_at "sts"
    refine L_rl (.of e6) ?_
    refine lc_dp (K := K) walk_list (fun j => ((ends (n : Int) bad 1 g0 rows)[j]?).map d4e) (by rw [List.length_map]; omega) (fun H' s => .of (s _ _ e6)) ?_ ?_
    · rintro j y pc H7 H7' R R' hj hpc s7 hpco ⟨rfl, hy⟩ q1 q2
      obtain ⟨e, qa, he, rfl, hqa⟩ := hLat j y hy
      have hem := List.mem_of_getElem? he
      have qa7 := (s56.trans s7) _ _ hqa
      have d7 := (s56.trans s7) _ _ e5
      walk_at "sts"
      refine ⟨rfl, ?_⟩
      walk_at "sts"
      refine ⟨_, .int e.2.2.2, rfl, hval e hem ▸ DGet.t d7 qa7, ?_⟩
      walk_at "sts"
      walk_at "nw"
      rename_i pn hpn H8 s8 e8
      refine L_catA (.of (s8 _ _ qa7)) (.of e8) (fun z => nomatch z) (fun z => nomatch z) (by rw [sizeLine_eq]; show 3 + 1 ≤ 16777216; decide) fun pm hpm => ?_
      have s9 := same_new (o := .tup (((toK (eKey e)).map kV) ++ [V.int e.2.2.2])) hpm
      have npm : pm ≠ pc := fun z => by
        obtain ⟨o, ho⟩ := hpco
        rw [z, s8 _ _ ho] at hpm
        cases hpm
      exact q1 _ (d4e e) _ (by rw [he]; rfl) (s8.trans s9) (dp_tupN (xs := [.int e.1, .int e.2.1, .str e.2.2.1, .int e.2.2.2]) upd_same npm (.cons (.int _) (.cons (.int _) (.cons (.str _) (.cons (.int _) .nil)))))
    intro pd H8 ud hpd s8 ed hAd
    rw [List.length_map, hLl, fm_get d4e] at hAd
    have hE0 : DpAll K H8 ud ((ends (n : Int) bad 1 g0 rows).map d4e) := hAd.same rs_sub
    have s38 : Same H3 H8 := s5.trans (s56.trans s8)
    walk_at "sts"
    have hx8 := hx.same s38
    refine L_methv (s38 _ _ ex) rfl ?_
    walk_at "sts"
    refine ⟨rows, hx8, .inr ⟨(n : Int), bad, ⟨rfl, rfl, by omega, by omega, b0, b1⟩, fun pe ue H9 hpe s9 ee hAe => ?_⟩⟩
    walk_at "sts"
    have hE9 := hE0.same s9
    have ed9 := s9 _ _ ed
    refine ⟨ue, _, ee, hAe.same rs_sub, ?_⟩
    walk_at "sts"
    refine L_neR (.lst (.of ee) (hAe.same rs_sub)) (.lst (.of ed9) hE9) (shp_ends ends_ok) ?_
    walk_at "sts"
    refine L_tyL (.of ee) ?_
    refine L_clear ee ?_
    have s910 : Same H8 (upd H9 pe (HO.lst [])) := same_mut s9 hpe
    have ed10 := s910 _ _ ed
    have hE10 := hE0.same s910
    generalize upd H9 pe (HO.lst []) = H10 at s910 ed10 hE10 ⊢
    generalize hEn : ends (n : Int) bad 1 g0 rows = En at *
    have hul2 := hE10.len
    rw [List.length_map] at hul2
    have hb4 : ∀ e ∈ En, 1 ≤ e.1 ∧ e.1 ≤ 24 ∧ 0 ≤ e.2.2.2 ∧ Bd 300 e.2.2.2 := fun e he => ends_b (lot := (n : Int)) (by omega) b0 b1 (rows := rows) (k := 0) Gk.zero (by omega) (by omega) e (by
      rw [show ((0 : Nat) : Int) + 1 = 1 by rfl, hEn]
      exact he)
    walk_at "sts"
    refine L_rl (.of ed10) ?_
    refine lc_fm walk_list (fun i => (En[i]?).map fun e => .int e.2.2.2) (by omega) (fun H' s => .of (s _ _ ed10)) ?_ ?_
    · rintro i x1 Ha Hb R R' hi sm ⟨rfl, hx1⟩ q1 q2
      obtain ⟨e, t, he, rfl, hT⟩ := hit4e hE10 hx1
      walk_at "sts"
      refine ⟨rfl, ?_⟩
      walk_at "sts"
      refine L_ixT (sm.seqT hT) rfl ?_
      exact q1 _ _ (by rw [he]; rfl) (Same.refl _)
    rw [hul2, fm_get (fun e : Ent => V.int e.2.2.2)]
    intro p11 H11 hp11 s11 e11
    replace e11 : H11 p11 = some (.lst ((En.map fun e => e.2.2.2).map V.int)) := by rw [e11, List.map_map]; rfl
    walk_at "sts"
    refine L_sum (.of e11) ?_
    walk_at "sts"
    refine L_rl (.of (s11 _ _ ed10)) ?_
    refine lc_fm walk_list (fun i => (En[i]?).bind fun e => if decide (e.2.2.1 = Str.ofString "by") = true then some (.int e.2.2.2) else none) (by omega) (fun H' s => .of (s _ _ (s11 _ _ ed10))) ?_ ?_
    · rintro i x1 Ha Hb R R' hi sm ⟨rfl, hx1⟩ q1 q2
      obtain ⟨e, t, he, rfl, hT⟩ := hit4e hE10 hx1
      have hT' := sm.seqT (s11.seqT hT)
      walk_at "sts"
      refine ⟨rfl, ?_⟩
      walk_at "sts"
      refine L_ixT hT' rfl ?_
      walk_at "sts"
      by_cases c : e.2.2.1 = Str.ofString "by"
      · refine L_dT c ?_
        walk_at "sts"
        refine L_ixT hT' rfl ?_
        exact q1 _ _ (by rw [he]; exact if_pos (decide_eq_true c)) (Same.refl _)
      · refine L_dF c ?_
        exact q2 _ (by rw [he]; exact if_neg (by rw [decide_eq_false c]; decide)) (Same.refl _)
    rw [hul2, fm_flt (fun e : Ent => decide (e.2.2.1 = Str.ofString "by")) (fun e : Ent => V.int e.2.2.2)]
    intro p12 H12 hp12 s12 e12
    replace e12 : H12 p12 = some (.lst (((En.filter fun e => decide (e.2.2.1 = Str.ofString "by")).map fun e => e.2.2.2).map V.int)) := by rw [e12, List.map_map]; rfl
    walk_at "sts"
    refine L_sum (.of e12) ?_
    walk_at "sts"
    have s1012 := s11.trans s12
    refine L_rl (.of (s1012 _ _ ed10)) ?_
    refine lc_fm walk_list (fun i => (En[i]?).map fun e => .int (e.1 * e.2.2.2)) (by omega) (fun H' s => .of (s _ _ (s1012 _ _ ed10))) ?_ ?_
    · rintro i x1 Ha Hb R R' hi sm ⟨rfl, hx1⟩ q1 q2
      obtain ⟨e, t, he, rfl, hT⟩ := hit4e hE10 hx1
      have hT' := sm.seqT (s1012.seqT hT)
      have hb := hb4 e (List.mem_of_getElem? he)
      walk_at "sts"
      refine ⟨rfl, ?_⟩
      walk_at "sts"
      refine L_ixT hT' rfl ?_
      walk_at "sts"
      refine L_ixT hT' rfl ?_
      refine L_mulI ((bd_64 (by omega)).cmul hb.2.2.2) ?_
      exact q1 _ _ (by rw [he]; rfl) (Same.refl _)
    rw [hul2, fm_get (fun e : Ent => V.int (e.1 * e.2.2.2))]
    intro p13 H13 hp13 s13b e13
    replace e13 : H13 p13 = some (.lst ((En.map fun e => e.1 * e.2.2.2).map V.int)) := by rw [e13, List.map_map]; rfl
    walk_at "sts"
    refine L_sum (.of e13) ?_
    walk_at "sts"
    have s313 : Same H3 H13 := s38.trans (s910.trans (s1012.trans s13b))
    have hev : (En.map fun e => e.2.2.2).sum = chs (n : Int) bad.toNat := by
      rw [allSum_w, ← hEn, root_eq _ (by omega), root_all ho (by omega) (by omega) b0 b1, show (n : Int).toNat = n by omega, chs_ch (by omega)]
    have hbs : ((En.filter fun e => decide (e.2.2.1 = Str.ofString "by")).map fun e => e.2.2.2).sum = root wBy n bad rows := by
      show bySum En = _
      rw [bySum_w, ← hEn, root_eq _ (by omega)]
    have hls : (En.map fun e => e.1 * e.2.2.2).sum = root wLook n bad rows := by
      show lookSum En = _
      rw [lookSum_w, ← hEn, root_eq _ (by omega)]
    rw [hev, hbs, hls]
    have hr0 := root_bd ho (by omega) (by omega) b0 b1
    have hc := chs_pos (many := (n : Int)) (by omega) (k := bad.toNat) (by omega)
    have hcp : 0 < chs (n : Int) bad.toNat := by omega
    have bR : Bd 128 (root wBy n bad rows) := by
      have := hc.2
      unfold Bd at *
      omega
    have bL : Bd 140 (root wLook n bad rows) := by
      have h1 := hc.2
      have h2 := (hr0.2)
      unfold Bd at *
      have e : (2 : Nat) ^ 140 = 4096 * 2 ^ 128 := by decide +kernel
      omega
    refine L_methv (s313 _ _ ex) rfl ?_
    walk_at "sts"
    refine ⟨rows, hx.same s313, .inr ⟨(n : Int), bad, ⟨rfl, rfl, by omega, by omega, b0, b1⟩, fun H14 s14 p15 H15 hp15 s15 e15 => ?_⟩⟩
    rw [bySum_w, root_eq _ (by omega), shr_low hcp] at e15
    walk_at "sts"
    refine ⟨hr0.1.1, hcp, bR.mono (by decide), hc.2.mono (by decide), fun p16 H16 hp16 s16 e16 => ?_⟩
    refine L_neR (d := d2 (low (root wBy n bad rows) (chs n bad.toNat))) (.tup (.of (s16 _ _ e15)) (by walk_at "dpa")) (.tup (.of e16) (by walk_at "dpa")) (shp_tup (n := 0) (shp_cons shp_int (shp_cons shp_int shp_nil))).ok ?_
    have s1316 := s14.trans (s15.trans s16)
    have s316 := s313.trans s1316
    walk_at "sts"
    refine L_methv (s316 _ _ ex) rfl ?_
    walk_at "sts"
    refine ⟨rows, hx.same s316, .inr ⟨(n : Int), bad, ⟨rfl, rfl, by omega, by omega, b0, b1⟩, fun H17 s17 p18 H18 hp18 s18 e18 => ?_⟩⟩
    rw [lookSum_w, root_eq _ (by omega), shr_low hcp] at e18
    walk_at "sts"
    refine ⟨hr0.2.1, hcp, bL.mono (by decide), hc.2.mono (by decide), fun p19 H19 hp19 s19 e19 => ?_⟩
    refine L_neR (d := d2 (low (root wLook n bad rows) (chs n bad.toNat))) (.tup (.of (s19 _ _ e18)) (by walk_at "dpa")) (.tup (.of e19) (by walk_at "dpa")) (shp_tup (n := 0) (shp_cons shp_int (shp_cons shp_int shp_nil))).ok ?_
    have s1619 := s17.trans (s18.trans s19)
    have s319 := s316.trans s1619
    walk_at "sts"
    refine L_methv (s319 _ _ ex) rfl ?_
    walk_at "sts"
    refine ⟨rows, hx.same s319, .inr ⟨(n : Int), bad, ⟨rfl, rfl, by omega, by omega, b0, b1⟩, fun pz uz H20 hpz s20 ez hAz => ?_⟩⟩
    rw [hEn] at hAz
    have s1020 : Same H10 H20 := s1012.trans (s13b.trans (s1316.trans (s1619.trans s20)))
    walk_at "sts"
    refine L_eqR (.lst (.of ez) (hAz.same rs_sub)) (.lst (.of (s1020 _ _ ed10)) (hE10.same s1020)) (shp_ends (l := En) (by rw [← hEn]; exact ends_ok)) ?_
    exact q _ (s13.trans (s319.trans s20))
theorem dpa_take8 {K : PySem.W.Frag} {H : Hp} : ∀ {us : List V} {ds : List PyData}, DpAll K H us ds → ∀ n : Nat, DpAll K H (us.take n) (ds.take n)
  | _, _, h, 0 => .nil
  | _, _, .nil, n + 1 => .nil
  | _, _, .cons a t, n + 1 => .cons a (dpa_take8 t n)
def sp_law (K : PySem.W.Frag) (mg : Str → Option Value) : Sp := fun vs H Q _ => match vs with | [.ref a] => ∃ ns : List Int, SqL K H a (ns.map V.int) ∧ ns.length ≤ 63 ∧ (∀ z ∈ ns, Builtin.Int.intBits z ≤ 1048576) ∧ ∀ H', Q (.bl true) H' | _ => False
theorem q_law {H : Hp} {Q : VK} {E : XK} {a : Addr} (q : ∃ ns : List Int, SqL K H a (ns.map V.int) ∧ ns.length ≤ 63 ∧ (∀ z ∈ ns, Builtin.Int.intBits z ≤ 1048576) ∧ ∀ H', Q (.bl true) H') : sp_law K mg [.ref a] H Q E := q
local macro_rules | `(tactic| walk_at "op") => `(tactic| with_reducible refine q_law ?_)
theorem c_law (T : Txt K mg) {f : Addr} {fd : FuncData} (F : Fun K "law" "law" s_law f fd) : FnOk P w K mg base CX0 7 f fd ["_law_script"] (sp_law K mg) := by
  refine F.ok (k := 6) sc_law (by intro vs H Q E h; unfold sp_law at h; split at h <;> first | rfl | exact h.elim) fun cdv A outer s H vs Q E hr h => ?_
  refine ⟨_, (pss_cons (ps_for PassesOwn.never rfl (pi_range1 (by rfl) T.n_range (pa_cons (pe_callB (call_max2A rfl) (by rfl) T.n_max (by decide +kernel) (pa_cons pe_int (pa_cons (pe_callB (call_min2A rfl) (by rfl) T.n_min (by decide +kernel) (pa_cons pe_int (pa_cons (pe_callB call_lenA (by rfl) T.n_len (by decide +kernel) (pa_cons (pv 0) pa_nil)) pa_nil))) pa_nil))) pa_nil)) (pg_name (i := 1) sc_law.nd rfl (.inl rfl))
    (pss_cons (ps_set (i := 2) sc_law.nd rfl (.inl rfl) (pe_c (c__law_cell T) hr (by decide) (by rfl) (pa_cons (pv 0) (pa_cons (pv 1) pa_nil))))
    (pss_cons (ps_set (i := 3) sc_law.nd rfl (.inl rfl) (pe_c (c__law_rows T) hr (by decide) (by rfl) (pa_cons (pv 2) pa_nil)))
    (pss_cons (ps_set (i := 3) sc_law.nd rfl (.inl rfl) (pe_slice sl_list (pv 3) po_none (po_some pe_int)))
    (pss_cons (ps_asg (pe_tup (pa_cons (pe_ix ix_seq (pe_ix ix_seq (pv 3) (pe_un un_neg pe_int) (fun _ _ => rfl)) pe_int (fun _ _ => rfl)) (pa_cons (pe_op op_addA (pe_ix ix_seq (pe_ix ix_seq (pv 3) (pe_un un_neg pe_int) (fun _ _ => rfl)) pe_int (fun _ _ => rfl)) pe_int) pa_nil))) (pg_sub (pv 3) (pe_un un_neg pe_int) set_list))
    (pss_cons (ps_set (i := 4) sc_law.nd rfl (.inl rfl) (pe_callB (call_min2A rfl) (by rfl) T.n_min (by decide +kernel) (pa_cons pe_int (pa_cons (pe_op op_addA (pe_callB call_lenA (by rfl) T.n_len (by decide +kernel) (pa_cons (pv 3) pa_nil)) (pe_op op_mod (pe_c (c__law_mixed T) hr (by decide) (by rfl) (pa_cons (pv 2) (pa_cons pe_int pa_nil))) pe_int)) pa_nil))))
    (pss_one (ps_if (pt_not (pt_val (pe_c (c__law_right T) hr (by decide) (by rfl) (pa_cons (pv 3) (pa_cons (pv 4) (pa_cons (pe_op op_mod (pe_c (c__law_mixed T) hr (by decide) (by rfl) (pa_cons (pv 2) (pa_cons pe_int pa_nil))) (pe_op op_addA (pv 4) pe_int)) pa_nil))))))
    (pss_one (ps_ret pe_bl))
    pss_nil))))))))
    (pss_one (ps_ret pe_bl))), ?_⟩
  try simp only [cxOf_K, cxOf_K', cxOf_mg, cxOf_mg']
  unfold sp_law at h
  split at h
  case h_2 => exact h.elim
  rename_i a
  rw [show L2.start ["_law_script", "_law_k", "_law_cell_here", "_law_rows_here", "_law_lot"] [V.ref a] = [some (V.ref a), none, none, none, none] from rfl]
  obtain ⟨ns, hS, hl, hbits, q⟩ := h
  walk_at "sts"
  refine L_lenL hS ?_
  walk_at "sts"
  rw [List.length_map]
  refine L_r1 (by omega) (by omega) ?_
  refine f_range (fun i σ' H' => Same H H' ∧ ∃ v1 v2 v3 v4 : Option V, σ' = [some (.ref a), v1, v2, v3, v4]) ⟨Same.refl _, _, _, _, _, rfl⟩ ?_ ?_
  · rintro i σ' H0 hi ⟨s0, v1, v2, v3, v4, rfl⟩
    walk_at "sts"
    refine ⟨ns, s0.seq hS, by omega, by omega, fun c => ?_⟩
    walk_at "sts"
    intro rows us pr H1 ho hpr s1 er hA0
    walk_at "sts"
    refine L_slL (.of er) ?_
    walk_at "nwp"
    rename_i p2 hp2 H2 s2 e2
    rw [show (8 : Int) = ((8 : Nat) : Int) from rfl, show ∀ xs : List V, cutV xs none (some ((8 : Nat) : Int)) = xs.take 8 from fun xs => cutG_take xs 8] at e2
    have hA : DpAll K H1 (us.take 8) ((rows.take 8).map d2) := by
      rw [List.map_take]
      exact dpa_take8 (hA0.same rs_sub) 8
    have hl1 := ho.lenpos
    have hul := hA.len
    rw [List.length_map] at hul
    have hok : ∀ r ∈ rows.take 8, OkR r := fun r hr => ho.ok r (List.mem_of_mem_take hr)
    have hrl : 1 ≤ (rows.take 8).length ∧ (rows.take 8).length ≤ 8 := by rw [List.length_take]; omega
    generalize rows.take 8 = rw8 at hA hul hok hrl
    generalize us.take 8 = us8 at hA hul e2
    obtain ⟨ini, r', rfl⟩ : ∃ ini l, rw8 = ini ++ [l] := ⟨rw8.dropLast, rw8.getLast (by intro z; rw [z] at hrl; simp at hrl), (List.dropLast_concat_getLast _).symm⟩
    obtain ⟨ui, ul, rfl⟩ : ∃ ui ul, us8 = ui ++ [ul] := ⟨us8.dropLast, us8.getLast (by intro z; rw [z] at hul; simp at hul), (List.dropLast_concat_getLast _).symm⟩
    have hui : ui.length = ini.length := by simpa using hul
    have hil : ini.length + 1 ≤ 8 := by simpa using hrl.2
    obtain ⟨r2, t, hr', ht, hRT⟩ := hit2 hA (i := ui.length) (x := ul) (by simp)
    have hrl : r2 = r' := by
      rw [hui] at hr'
      simpa using hr'.symm
    subst hrl
    subst ht
    have hRT2 : SqT K H2 t [.int r2.1, .int r2.2] := s2.seqT hRT
    have ol := hok r2 (by simp)
    walk_at "sts"
    refine L_ixL (.of e2) (atI_last ui _) ?_
    walk_at "sts"
    refine L_ixT hRT2 (by rfl) ?_
    walk_at "sts"
    refine L_ixL (.of e2) (atI_last ui _) ?_
    walk_at "sts"
    refine L_ixT hRT2 (by rfl) ?_
    walk_at "sts"
    walk_at "nw"
    rename_i p5 hp5 H5 s5 e5
    walk_at "sts"
    refine L_setL (s5 _ _ e2) (j := ui.length) ?_ ?_
    · unfold ixN
      rw [if_neg (by decide), if_pos (by simp; omega)]
      simp
      omega
    have hset : (ui ++ [V.ref t]).set ui.length (V.ref p5) = ui ++ [V.ref p5] := by simp
    rw [hset]
    have s16 : Same H1 (upd H5 p2 (.lst (ui ++ [V.ref p5]))) := same_mut (s2.trans s5) hp2
    have e6 : (upd H5 p2 (.lst (ui ++ [V.ref p5]))) p2 = some (.lst (ui ++ [V.ref p5])) := upd_same
    have e65 : (upd H5 p2 (.lst (ui ++ [V.ref p5]))) p5 = some (.tup [.int r2.1, .int (r2.1 + 1)]) := by
      rw [upd_ne (ne_new hp5 ⟨_, e2⟩)]
      exact e5
    generalize upd H5 p2 (.lst (ui ++ [V.ref p5])) = H6 at s16 e6 e65 ⊢
    have hA6 : DpAll K H6 (ui ++ [V.ref p5]) ((ini ++ [(r2.1, r2.1 + 1)]).map d2) := by
      rw [List.map_append] at hA
      rw [List.map_append]
      exact ((dpa_app hA (by simp [hui])).1.same s16).snoc (.tup (.of e65) (by walk_at "dpa"))
    have ho6 : OkT (ini ++ [(r2.1, r2.1 + 1)]) := by
      refine ⟨by simp; omega, fun r hr => ?_, ini, _, rfl, rfl⟩
      rcases List.mem_append.mp hr with hr | hr
      · exact hok r (List.mem_append_left _ hr)
      · rw [List.mem_singleton.mp hr]
        obtain ⟨o1, o2, o3, o4, o5⟩ := ol
        exact ⟨o1, o2, by show 0 ≤ r2.1 + 1; omega, by show r2.1 + 1 ≤ 25; omega, by show r2.1 < r2.1 + 1; omega⟩
    have hrl6 : (ini ++ [(r2.1, r2.1 + 1)]).length = ini.length + 1 := by simp
    walk_at "sts"
    refine L_lenL (.of e6) ?_
    walk_at "sts"
    refine ⟨by decide, by decide, fun m1 m10 m11 => ?_⟩
    walk_at "sa"
    generalize hlot : min (9 : Int) _ = lot
    have hlot2 : ((ini.length : Int) + 1) ≤ lot ∧ lot ≤ 9 := by
      rw [List.length_append, List.length_singleton] at hlot
      omega
    walk_at "sts"
    refine ⟨by decide, by decide, fun m2 m20 m21 => ?_⟩
    walk_at "sts"
    refine L_I (by omega) ?_
    have b0 := Int.emod_nonneg m2 (show lot + 1 ≠ 0 by omega)
    have b1 := Int.emod_lt_of_pos m2 (show 0 < lot + 1 by omega)
    generalize m2 % (lot + 1) = bad at b0 b1 ⊢
    refine ⟨_, _, e6, hA6, ho6, by omega, by omega, b0, by omega, fun H7 s7 => ?_⟩
    walk_at "sts"
    exact ⟨s0.trans (s1.trans (s16.trans s7)), _, _, _, _, rfl⟩
  · rintro σ' H0 ⟨s0, v1, v2, v3, v4, rfl⟩
    walk_at "sts"
    exact q _
end
theorem txt_mk {K : PySem.W.Frag} {h : Heap} {mg : Str → Option Value} (X : K.In h) (G : h.Ns mainGlobals mg)
    (z_n_len : PySem.W.nsIn K mainGlobals "len" = some none)
    (z_n_bool : PySem.W.nsIn K mainGlobals "bool" = some none)
    (z_n_int : PySem.W.nsIn K mainGlobals "int" = some none)
    (z_n_isinstance : PySem.W.nsIn K mainGlobals "isinstance" = some none)
    (z_n_tuple : PySem.W.nsIn K mainGlobals "tuple" = some none)
    {u_g_MOST_WARES : Value} (z_g_MOST_WARES : PySem.W.nsIn K mainGlobals "MOST_WARES" = some (some u_g_MOST_WARES)) (y_g_MOST_WARES : RelV (.int 24) u_g_MOST_WARES)
    {C_SpeakError : Addr} (aC_SpeakError : PySem.W.nsIn K mainGlobals "SpeakError" = some (some (.ref C_SpeakError)))
    (bi0_SpeakError : PySem.W.readsIn K C_SpeakError (.type "type") = true) (bi1_SpeakError : PySem.W.specialIn K (.ref C_SpeakError) "__getattribute__" = some (some (.builtin "type.__getattribute__"))) (bi2_SpeakError : PySem.W.findCls K (.ref C_SpeakError) (.type "type") "__init__" = some (.val (.builtin "ValueError.__init__")))
    {C_NoTable : Addr} (aC_NoTable : PySem.W.nsIn K mainGlobals "NoTable" = some (some (.ref C_NoTable)))
    (ox_NoTable : ∃ nm q N bs bm sn sub ab col dd k0 k1 k2 k3 k5, K.lookup C_NoTable = some (excClassObj nm q C_NoTable N bs bm true sn sub ab col dd k0 k1 k2 k3 k5 "ValueError.__new__") ∧ PySem.HandSPX.refsVE bm = true) (o0_NoTable : PySem.W.findIn K (.ref C_NoTable) "__setattr__" = some (some (.builtin "object.__setattr__"))) (o1_NoTable : PySem.W.subIn K (.ref C_NoTable) (.type "BaseException") = some true) (o2_NoTable : PySem.W.typeIn K (.ref C_NoTable) = some (.type "type")) (o3_NoTable : PySem.W.keepIn K (.ref C_NoTable) = true)
    (na_NoTable_row : PySem.W.findIn K (.ref C_NoTable) "row" = some none)
    (z_n_enumerate : PySem.W.nsIn K mainGlobals "enumerate" = some none)
    (z_n_list : PySem.W.nsIn K mainGlobals "list" = some none)
    {C_Looks : Addr} (aC_Looks : PySem.W.nsIn K mainGlobals "Looks" = some (some (.ref C_Looks)))
    (pg_Looks : PySem.W.plainGet K C_Looks Str.empty = true) (hd_Looks : PySem.W.hasDictIn K C_Looks = true) (po_Looks : PySem.W.plainOver K C_Looks = true) (sa_Looks : PySem.W.findIn K (.ref C_Looks) "__setattr__" = some (some (.builtin "object.__setattr__"))) (mk_Looks : PySem.W.makesIn K C_Looks = true) (kc_Looks : PySem.W.keepIn K (.ref C_Looks) = true)
    (na_Looks_looks : PySem.W.findIn K (.ref C_Looks) "looks" = some none)
    {C_NoLot : Addr} (aC_NoLot : PySem.W.nsIn K mainGlobals "NoLot" = some (some (.ref C_NoLot)))
    (xx_NoLot : PySem.W.excIn K C_NoLot [.type "ValueError", .type "Exception", .type "BaseException", .type "object"] "ValueError.__new__" = true) (xk_NoLot : PySem.W.keepIn K (.ref C_NoLot) = true) (xb_NoLot : PySem.W.subIn K (.ref C_NoLot) (.type "BaseException") = some true) (xt_NoLot : PySem.W.typeIn K (.ref C_NoLot) = some (.type "type"))
    (z_n_range : PySem.W.nsIn K mainGlobals "range" = some none)
    (z_n_sorted : PySem.W.nsIn K mainGlobals "sorted" = some none)
    (z_n_abs : PySem.W.nsIn K mainGlobals "abs" = some none)
    (z_n_sum : PySem.W.nsIn K mainGlobals "sum" = some none)
    (z_n_min : PySem.W.nsIn K mainGlobals "min" = some none)
    (z_n_str : PySem.W.nsIn K mainGlobals "str" = some none)
    (z_n_max : PySem.W.nsIn K mainGlobals "max" = some none)
    (z0_NoLot : PySem.W.findIn K (.ref C_NoLot) "__getattribute__" = some (some (.builtin "BaseException.__getattribute__"))) (z1_NoLot : PySem.W.findIn K (.ref C_NoLot) "__getattr__" = some none) (z2_NoLot : PySem.W.subIn K (.ref C_NoLot) (.type "BaseException") = some true) (z3_NoLot : PySem.W.hasDictIn K C_NoLot = true) (z4_NoLot : PySem.W.findIn K (.ref C_NoLot) "__class__" = some (some (.builtin "object.__class__"))) (z5_NoLot : PySem.W.specialIn K (.builtin "object.__class__") "__get__" = some (some (.builtin "getset_descriptor.__get__"))) (z6_NoLot : PySem.W.takesIn K (.builtin "object.__class__") = some true) (z7_NoLot : PySem.W.mroIn K C_NoLot (.type "object") = some true)
    (z0_NoTable : PySem.W.findIn K (.ref C_NoTable) "__getattribute__" = some (some (.builtin "BaseException.__getattribute__"))) (z1_NoTable : PySem.W.findIn K (.ref C_NoTable) "__getattr__" = some none) (z2_NoTable : PySem.W.subIn K (.ref C_NoTable) (.type "BaseException") = some true) (z3_NoTable : PySem.W.hasDictIn K C_NoTable = true) (z4_NoTable : PySem.W.findIn K (.ref C_NoTable) "__class__" = some (some (.builtin "object.__class__"))) (z5_NoTable : PySem.W.specialIn K (.builtin "object.__class__") "__get__" = some (some (.builtin "getset_descriptor.__get__"))) (z6_NoTable : PySem.W.takesIn K (.builtin "object.__class__") = some true) (z7_NoTable : PySem.W.mroIn K C_NoTable (.type "object") = some true)
    (yb_NoLot : PySem.W.subIn K (.ref C_NoLot) (.type "BaseException") = some true) (yi_NoLot : PySem.W.isClsIn K C_NoLot = true) (yt_NoLot : PySem.W.typeIn K (.ref C_NoLot) = some (.type "type"))
    (yb_NoTable : PySem.W.subIn K (.ref C_NoTable) (.type "BaseException") = some true) (yi_NoTable : PySem.W.isClsIn K C_NoTable = true) (yt_NoTable : PySem.W.typeIn K (.ref C_NoTable) = some (.type "type"))
    (yb_SpeakError : PySem.W.subIn K (.ref C_SpeakError) (.type "BaseException") = some true) (yi_SpeakError : PySem.W.isClsIn K C_SpeakError = true) (yt_SpeakError : PySem.W.typeIn K (.ref C_SpeakError) = some (.type "type"))
    {f__law_cell : Addr} {od__law_cell an__law_cell : Option Addr} {sl__law_cell : Array (Option Value)} {oc__law_cell kV__law_cell dc__law_cell pm__law_cell cd__law_cell ct__law_cell : Value}
    (a__law_cell : PySem.W.nsIn K mainGlobals "_law_cell" = some (some (.ref f__law_cell))) (l__law_cell : K.lookup f__law_cell = some ⟨oc__law_cell, od__law_cell, .func (PySem.W.fnOf "_law_cell" "_law_cell" (defArgs s__law_cell) (defBody s__law_cell) (defScope s__law_cell) .none kV__law_cell dc__law_cell pm__law_cell an__law_cell cd__law_cell ct__law_cell), sl__law_cell⟩) (c__law_cell : PySem.W.codeIn K cd__law_cell "_law_cell" = true) (k__law_cell : PySem.W.keepIn K (.ref f__law_cell) = true)
    {f__law_mixed : Addr} {od__law_mixed an__law_mixed : Option Addr} {sl__law_mixed : Array (Option Value)} {oc__law_mixed kV__law_mixed dc__law_mixed pm__law_mixed cd__law_mixed ct__law_mixed : Value}
    (a__law_mixed : PySem.W.nsIn K mainGlobals "_law_mixed" = some (some (.ref f__law_mixed))) (l__law_mixed : K.lookup f__law_mixed = some ⟨oc__law_mixed, od__law_mixed, .func (PySem.W.fnOf "_law_mixed" "_law_mixed" (defArgs s__law_mixed) (defBody s__law_mixed) (defScope s__law_mixed) .none kV__law_mixed dc__law_mixed pm__law_mixed an__law_mixed cd__law_mixed ct__law_mixed), sl__law_mixed⟩) (c__law_mixed : PySem.W.codeIn K cd__law_mixed "_law_mixed" = true) (k__law_mixed : PySem.W.keepIn K (.ref f__law_mixed) = true)
    {f_is_whole : Addr} {od_is_whole an_is_whole : Option Addr} {sl_is_whole : Array (Option Value)} {oc_is_whole kV_is_whole dc_is_whole pm_is_whole cd_is_whole ct_is_whole : Value}
    (a_is_whole : PySem.W.nsIn K mainGlobals "is_whole" = some (some (.ref f_is_whole))) (l_is_whole : K.lookup f_is_whole = some ⟨oc_is_whole, od_is_whole, .func (PySem.W.fnOf "is_whole" "is_whole" (defArgs s_is_whole) (defBody s_is_whole) (defScope s_is_whole) .none kV_is_whole dc_is_whole pm_is_whole an_is_whole cd_is_whole ct_is_whole), sl_is_whole⟩) (c_is_whole : PySem.W.codeIn K cd_is_whole "is_whole" = true) (k_is_whole : PySem.W.keepIn K (.ref f_is_whole) = true)
    {f_is_row : Addr} {od_is_row an_is_row : Option Addr} {sl_is_row : Array (Option Value)} {oc_is_row kV_is_row dc_is_row pm_is_row cd_is_row ct_is_row : Value}
    (a_is_row : PySem.W.nsIn K mainGlobals "is_row" = some (some (.ref f_is_row))) (l_is_row : K.lookup f_is_row = some ⟨oc_is_row, od_is_row, .func (PySem.W.fnOf "is_row" "is_row" (defArgs s_is_row) (defBody s_is_row) (defScope s_is_row) .none kV_is_row dc_is_row pm_is_row an_is_row cd_is_row ct_is_row), sl_is_row⟩) (c_is_row : PySem.W.codeIn K cd_is_row "is_row" = true) (k_is_row : PySem.W.keepIn K (.ref f_is_row) = true)
    {f_NoTable___init__ : Addr} {od_NoTable___init__ an_NoTable___init__ : Option Addr} {sl_NoTable___init__ : Array (Option Value)} {oc_NoTable___init__ kV_NoTable___init__ dc_NoTable___init__ pm_NoTable___init__ cd_NoTable___init__ ct_NoTable___init__ : Value}
    (a_NoTable___init__ : PySem.W.findIn K (.ref C_NoTable) "__init__" = some (some (.ref f_NoTable___init__))) (i_NoTable___init__ : PySem.W.isFn K (.ref f_NoTable___init__) = true) (l_NoTable___init__ : K.lookup f_NoTable___init__ = some ⟨oc_NoTable___init__, od_NoTable___init__, .func (PySem.W.fnOf "__init__" "NoTable.__init__" (defArgs s_NoTable___init__) (defBody s_NoTable___init__) (defScope s_NoTable___init__) .none kV_NoTable___init__ dc_NoTable___init__ pm_NoTable___init__ an_NoTable___init__ cd_NoTable___init__ ct_NoTable___init__), sl_NoTable___init__⟩) (c_NoTable___init__ : PySem.W.codeIn K cd_NoTable___init__ "NoTable.__init__" = true) (k_NoTable___init__ : PySem.W.keepIn K (.ref f_NoTable___init__) = true)
    {f_need_rows : Addr} {od_need_rows an_need_rows : Option Addr} {sl_need_rows : Array (Option Value)} {oc_need_rows kV_need_rows dc_need_rows pm_need_rows cd_need_rows ct_need_rows : Value}
    (a_need_rows : PySem.W.nsIn K mainGlobals "need_rows" = some (some (.ref f_need_rows))) (l_need_rows : K.lookup f_need_rows = some ⟨oc_need_rows, od_need_rows, .func (PySem.W.fnOf "need_rows" "need_rows" (defArgs s_need_rows) (defBody s_need_rows) (defScope s_need_rows) .none kV_need_rows dc_need_rows pm_need_rows an_need_rows cd_need_rows ct_need_rows), sl_need_rows⟩) (c_need_rows : PySem.W.codeIn K cd_need_rows "need_rows" = true) (k_need_rows : PySem.W.keepIn K (.ref f_need_rows) = true)
    {f_Looks___init__ : Addr} {od_Looks___init__ an_Looks___init__ : Option Addr} {sl_Looks___init__ : Array (Option Value)} {oc_Looks___init__ kV_Looks___init__ dc_Looks___init__ pm_Looks___init__ cd_Looks___init__ ct_Looks___init__ : Value}
    (a_Looks___init__ : PySem.W.findIn K (.ref C_Looks) "__init__" = some (some (.ref f_Looks___init__))) (i_Looks___init__ : PySem.W.isFn K (.ref f_Looks___init__) = true) (l_Looks___init__ : K.lookup f_Looks___init__ = some ⟨oc_Looks___init__, od_Looks___init__, .func (PySem.W.fnOf "__init__" "Looks.__init__" (defArgs s_Looks___init__) (defBody s_Looks___init__) (defScope s_Looks___init__) .none kV_Looks___init__ dc_Looks___init__ pm_Looks___init__ an_Looks___init__ cd_Looks___init__ ct_Looks___init__), sl_Looks___init__⟩) (c_Looks___init__ : PySem.W.codeIn K cd_Looks___init__ "Looks.__init__" = true) (k_Looks___init__ : PySem.W.keepIn K (.ref f_Looks___init__) = true)
    {f_Looks_word_at : Addr} {od_Looks_word_at an_Looks_word_at : Option Addr} {sl_Looks_word_at : Array (Option Value)} {oc_Looks_word_at kV_Looks_word_at dc_Looks_word_at pm_Looks_word_at cd_Looks_word_at ct_Looks_word_at : Value}
    (a_Looks_word_at : PySem.W.findIn K (.ref C_Looks) "word_at" = some (some (.ref f_Looks_word_at))) (i_Looks_word_at : PySem.W.isFn K (.ref f_Looks_word_at) = true) (l_Looks_word_at : K.lookup f_Looks_word_at = some ⟨oc_Looks_word_at, od_Looks_word_at, .func (PySem.W.fnOf "word_at" "Looks.word_at" (defArgs s_Looks_word_at) (defBody s_Looks_word_at) (defScope s_Looks_word_at) .none kV_Looks_word_at dc_Looks_word_at pm_Looks_word_at an_Looks_word_at cd_Looks_word_at ct_Looks_word_at), sl_Looks_word_at⟩) (c_Looks_word_at : PySem.W.codeIn K cd_Looks_word_at "Looks.word_at" = true) (k_Looks_word_at : PySem.W.keepIn K (.ref f_Looks_word_at) = true)
    {f_Looks_need_lot : Addr} {od_Looks_need_lot an_Looks_need_lot : Option Addr} {sl_Looks_need_lot : Array (Option Value)} {oc_Looks_need_lot kV_Looks_need_lot dc_Looks_need_lot pm_Looks_need_lot cd_Looks_need_lot ct_Looks_need_lot : Value}
    (a_Looks_need_lot : PySem.W.findIn K (.ref C_Looks) "need_lot" = some (some (.ref f_Looks_need_lot))) (i_Looks_need_lot : PySem.W.isFn K (.ref f_Looks_need_lot) = true) (l_Looks_need_lot : K.lookup f_Looks_need_lot = some ⟨oc_Looks_need_lot, od_Looks_need_lot, .func (PySem.W.fnOf "need_lot" "Looks.need_lot" (defArgs s_Looks_need_lot) (defBody s_Looks_need_lot) (defScope s_Looks_need_lot) .none kV_Looks_need_lot dc_Looks_need_lot pm_Looks_need_lot an_Looks_need_lot cd_Looks_need_lot ct_Looks_need_lot), sl_Looks_need_lot⟩) (c_Looks_need_lot : PySem.W.codeIn K cd_Looks_need_lot "Looks.need_lot" = true) (k_Looks_need_lot : PySem.W.keepIn K (.ref f_Looks_need_lot) = true)
    {f_sets_of : Addr} {od_sets_of an_sets_of : Option Addr} {sl_sets_of : Array (Option Value)} {oc_sets_of kV_sets_of dc_sets_of pm_sets_of cd_sets_of ct_sets_of : Value}
    (a_sets_of : PySem.W.nsIn K mainGlobals "sets_of" = some (some (.ref f_sets_of))) (l_sets_of : K.lookup f_sets_of = some ⟨oc_sets_of, od_sets_of, .func (PySem.W.fnOf "sets_of" "sets_of" (defArgs s_sets_of) (defBody s_sets_of) (defScope s_sets_of) .none kV_sets_of dc_sets_of pm_sets_of an_sets_of cd_sets_of ct_sets_of), sl_sets_of⟩) (c_sets_of : PySem.W.codeIn K cd_sets_of "sets_of" = true) (k_sets_of : PySem.W.keepIn K (.ref f_sets_of) = true)
    {f_Looks_endings : Addr} {od_Looks_endings an_Looks_endings : Option Addr} {sl_Looks_endings : Array (Option Value)} {oc_Looks_endings kV_Looks_endings dc_Looks_endings pm_Looks_endings cd_Looks_endings ct_Looks_endings : Value}
    (a_Looks_endings : PySem.W.findIn K (.ref C_Looks) "endings" = some (some (.ref f_Looks_endings))) (i_Looks_endings : PySem.W.isFn K (.ref f_Looks_endings) = true) (l_Looks_endings : K.lookup f_Looks_endings = some ⟨oc_Looks_endings, od_Looks_endings, .func (PySem.W.fnOf "endings" "Looks.endings" (defArgs s_Looks_endings) (defBody s_Looks_endings) (defScope s_Looks_endings) .none kV_Looks_endings dc_Looks_endings pm_Looks_endings an_Looks_endings cd_Looks_endings ct_Looks_endings), sl_Looks_endings⟩) (c_Looks_endings : PySem.W.codeIn K cd_Looks_endings "Looks.endings" = true) (k_Looks_endings : PySem.W.keepIn K (.ref f_Looks_endings) = true)
    {f_divisor : Addr} {od_divisor an_divisor : Option Addr} {sl_divisor : Array (Option Value)} {oc_divisor kV_divisor dc_divisor pm_divisor cd_divisor ct_divisor : Value}
    (a_divisor : PySem.W.nsIn K mainGlobals "divisor" = some (some (.ref f_divisor))) (l_divisor : K.lookup f_divisor = some ⟨oc_divisor, od_divisor, .func (PySem.W.fnOf "divisor" "divisor" (defArgs s_divisor) (defBody s_divisor) (defScope s_divisor) .none kV_divisor dc_divisor pm_divisor an_divisor cd_divisor ct_divisor), sl_divisor⟩) (c_divisor : PySem.W.codeIn K cd_divisor "divisor" = true) (k_divisor : PySem.W.keepIn K (.ref f_divisor) = true)
    {f_share : Addr} {od_share an_share : Option Addr} {sl_share : Array (Option Value)} {oc_share kV_share dc_share pm_share cd_share ct_share : Value}
    (a_share : PySem.W.nsIn K mainGlobals "share" = some (some (.ref f_share))) (l_share : K.lookup f_share = some ⟨oc_share, od_share, .func (PySem.W.fnOf "share" "share" (defArgs s_share) (defBody s_share) (defScope s_share) .none kV_share dc_share pm_share an_share cd_share ct_share), sl_share⟩) (c_share : PySem.W.codeIn K cd_share "share" = true) (k_share : PySem.W.keepIn K (.ref f_share) = true)
    {f_Looks_let_by : Addr} {od_Looks_let_by an_Looks_let_by : Option Addr} {sl_Looks_let_by : Array (Option Value)} {oc_Looks_let_by kV_Looks_let_by dc_Looks_let_by pm_Looks_let_by cd_Looks_let_by ct_Looks_let_by : Value}
    (a_Looks_let_by : PySem.W.findIn K (.ref C_Looks) "let_by" = some (some (.ref f_Looks_let_by))) (i_Looks_let_by : PySem.W.isFn K (.ref f_Looks_let_by) = true) (l_Looks_let_by : K.lookup f_Looks_let_by = some ⟨oc_Looks_let_by, od_Looks_let_by, .func (PySem.W.fnOf "let_by" "Looks.let_by" (defArgs s_Looks_let_by) (defBody s_Looks_let_by) (defScope s_Looks_let_by) .none kV_Looks_let_by dc_Looks_let_by pm_Looks_let_by an_Looks_let_by cd_Looks_let_by ct_Looks_let_by), sl_Looks_let_by⟩) (c_Looks_let_by : PySem.W.codeIn K cd_Looks_let_by "Looks.let_by" = true) (k_Looks_let_by : PySem.W.keepIn K (.ref f_Looks_let_by) = true)
    {f_Looks_looked_at : Addr} {od_Looks_looked_at an_Looks_looked_at : Option Addr} {sl_Looks_looked_at : Array (Option Value)} {oc_Looks_looked_at kV_Looks_looked_at dc_Looks_looked_at pm_Looks_looked_at cd_Looks_looked_at ct_Looks_looked_at : Value}
    (a_Looks_looked_at : PySem.W.findIn K (.ref C_Looks) "looked_at" = some (some (.ref f_Looks_looked_at))) (i_Looks_looked_at : PySem.W.isFn K (.ref f_Looks_looked_at) = true) (l_Looks_looked_at : K.lookup f_Looks_looked_at = some ⟨oc_Looks_looked_at, od_Looks_looked_at, .func (PySem.W.fnOf "looked_at" "Looks.looked_at" (defArgs s_Looks_looked_at) (defBody s_Looks_looked_at) (defScope s_Looks_looked_at) .none kV_Looks_looked_at dc_Looks_looked_at pm_Looks_looked_at an_Looks_looked_at cd_Looks_looked_at ct_Looks_looked_at), sl_Looks_looked_at⟩) (c_Looks_looked_at : PySem.W.codeIn K cd_Looks_looked_at "Looks.looked_at" = true) (k_Looks_looked_at : PySem.W.keepIn K (.ref f_Looks_looked_at) = true)
    {f_are_wares : Addr} {od_are_wares an_are_wares : Option Addr} {sl_are_wares : Array (Option Value)} {oc_are_wares kV_are_wares dc_are_wares pm_are_wares cd_are_wares ct_are_wares : Value}
    (a_are_wares : PySem.W.nsIn K mainGlobals "are_wares" = some (some (.ref f_are_wares))) (l_are_wares : K.lookup f_are_wares = some ⟨oc_are_wares, od_are_wares, .func (PySem.W.fnOf "are_wares" "are_wares" (defArgs s_are_wares) (defBody s_are_wares) (defScope s_are_wares) .none kV_are_wares dc_are_wares pm_are_wares an_are_wares cd_are_wares ct_are_wares), sl_are_wares⟩) (c_are_wares : PySem.W.codeIn K cd_are_wares "are_wares" = true) (k_are_wares : PySem.W.keepIn K (.ref f_are_wares) = true)
    {f_Looks_judged : Addr} {od_Looks_judged an_Looks_judged : Option Addr} {sl_Looks_judged : Array (Option Value)} {oc_Looks_judged kV_Looks_judged dc_Looks_judged pm_Looks_judged cd_Looks_judged ct_Looks_judged : Value}
    (a_Looks_judged : PySem.W.findIn K (.ref C_Looks) "judged" = some (some (.ref f_Looks_judged))) (i_Looks_judged : PySem.W.isFn K (.ref f_Looks_judged) = true) (l_Looks_judged : K.lookup f_Looks_judged = some ⟨oc_Looks_judged, od_Looks_judged, .func (PySem.W.fnOf "judged" "Looks.judged" (defArgs s_Looks_judged) (defBody s_Looks_judged) (defScope s_Looks_judged) .none kV_Looks_judged dc_Looks_judged pm_Looks_judged an_Looks_judged cd_Looks_judged ct_Looks_judged), sl_Looks_judged⟩) (c_Looks_judged : PySem.W.codeIn K cd_Looks_judged "Looks.judged" = true) (k_Looks_judged : PySem.W.keepIn K (.ref f_Looks_judged) = true)
    {f__law_rows : Addr} {od__law_rows an__law_rows : Option Addr} {sl__law_rows : Array (Option Value)} {oc__law_rows kV__law_rows dc__law_rows pm__law_rows cd__law_rows ct__law_rows : Value}
    (a__law_rows : PySem.W.nsIn K mainGlobals "_law_rows" = some (some (.ref f__law_rows))) (l__law_rows : K.lookup f__law_rows = some ⟨oc__law_rows, od__law_rows, .func (PySem.W.fnOf "_law_rows" "_law_rows" (defArgs s__law_rows) (defBody s__law_rows) (defScope s__law_rows) .none kV__law_rows dc__law_rows pm__law_rows an__law_rows cd__law_rows ct__law_rows), sl__law_rows⟩) (c__law_rows : PySem.W.codeIn K cd__law_rows "_law_rows" = true) (k__law_rows : PySem.W.keepIn K (.ref f__law_rows) = true)
    {f__law_word : Addr} {od__law_word an__law_word : Option Addr} {sl__law_word : Array (Option Value)} {oc__law_word kV__law_word dc__law_word pm__law_word cd__law_word ct__law_word : Value}
    (a__law_word : PySem.W.nsIn K mainGlobals "_law_word" = some (some (.ref f__law_word))) (l__law_word : K.lookup f__law_word = some ⟨oc__law_word, od__law_word, .func (PySem.W.fnOf "_law_word" "_law_word" (defArgs s__law_word) (defBody s__law_word) (defScope s__law_word) .none kV__law_word dc__law_word pm__law_word an__law_word cd__law_word ct__law_word), sl__law_word⟩) (c__law_word : PySem.W.codeIn K cd__law_word "_law_word" = true) (k__law_word : PySem.W.keepIn K (.ref f__law_word) = true)
    {f__law_lowest : Addr} {od__law_lowest an__law_lowest : Option Addr} {sl__law_lowest : Array (Option Value)} {oc__law_lowest kV__law_lowest dc__law_lowest pm__law_lowest cd__law_lowest ct__law_lowest : Value}
    (a__law_lowest : PySem.W.nsIn K mainGlobals "_law_lowest" = some (some (.ref f__law_lowest))) (l__law_lowest : K.lookup f__law_lowest = some ⟨oc__law_lowest, od__law_lowest, .func (PySem.W.fnOf "_law_lowest" "_law_lowest" (defArgs s__law_lowest) (defBody s__law_lowest) (defScope s__law_lowest) .none kV__law_lowest dc__law_lowest pm__law_lowest an__law_lowest cd__law_lowest ct__law_lowest), sl__law_lowest⟩) (c__law_lowest : PySem.W.codeIn K cd__law_lowest "_law_lowest" = true) (k__law_lowest : PySem.W.keepIn K (.ref f__law_lowest) = true)
    {f__law_end : Addr} {od__law_end an__law_end : Option Addr} {sl__law_end : Array (Option Value)} {oc__law_end kV__law_end dc__law_end pm__law_end cd__law_end ct__law_end : Value}
    (a__law_end : PySem.W.nsIn K mainGlobals "_law_end" = some (some (.ref f__law_end))) (l__law_end : K.lookup f__law_end = some ⟨oc__law_end, od__law_end, .func (PySem.W.fnOf "_law_end" "_law_end" (defArgs s__law_end) (defBody s__law_end) (defScope s__law_end) .none kV__law_end dc__law_end pm__law_end an__law_end cd__law_end ct__law_end), sl__law_end⟩) (c__law_end : PySem.W.codeIn K cd__law_end "_law_end" = true) (k__law_end : PySem.W.keepIn K (.ref f__law_end) = true)
    {f__law_kinds : Addr} {od__law_kinds an__law_kinds : Option Addr} {sl__law_kinds : Array (Option Value)} {oc__law_kinds kV__law_kinds dc__law_kinds pm__law_kinds cd__law_kinds ct__law_kinds : Value}
    (a__law_kinds : PySem.W.nsIn K mainGlobals "_law_kinds" = some (some (.ref f__law_kinds))) (l__law_kinds : K.lookup f__law_kinds = some ⟨oc__law_kinds, od__law_kinds, .func (PySem.W.fnOf "_law_kinds" "_law_kinds" (defArgs s__law_kinds) (defBody s__law_kinds) (defScope s__law_kinds) .none kV__law_kinds dc__law_kinds pm__law_kinds an__law_kinds cd__law_kinds ct__law_kinds), sl__law_kinds⟩) (c__law_kinds : PySem.W.codeIn K cd__law_kinds "_law_kinds" = true) (k__law_kinds : PySem.W.keepIn K (.ref f__law_kinds) = true)
    {f__law_right : Addr} {od__law_right an__law_right : Option Addr} {sl__law_right : Array (Option Value)} {oc__law_right kV__law_right dc__law_right pm__law_right cd__law_right ct__law_right : Value}
    (a__law_right : PySem.W.nsIn K mainGlobals "_law_right" = some (some (.ref f__law_right))) (l__law_right : K.lookup f__law_right = some ⟨oc__law_right, od__law_right, .func (PySem.W.fnOf "_law_right" "_law_right" (defArgs s__law_right) (defBody s__law_right) (defScope s__law_right) .none kV__law_right dc__law_right pm__law_right an__law_right cd__law_right ct__law_right), sl__law_right⟩) (c__law_right : PySem.W.codeIn K cd__law_right "_law_right" = true) (k__law_right : PySem.W.keepIn K (.ref f__law_right) = true)
    {f_law : Addr} {od_law an_law : Option Addr} {sl_law : Array (Option Value)} {oc_law kV_law dc_law pm_law cd_law ct_law : Value}
    (a_law : PySem.W.nsIn K mainGlobals "law" = some (some (.ref f_law))) (l_law : K.lookup f_law = some ⟨oc_law, od_law, .func (PySem.W.fnOf "law" "law" (defArgs s_law) (defBody s_law) (defScope s_law) .none kV_law dc_law pm_law an_law cd_law ct_law), sl_law⟩) (c_law : PySem.W.codeIn K cd_law "law" = true) (k_law : PySem.W.keepIn K (.ref f_law) = true) : Txt K mg := by
  have e_SpeakError : cA mg "SpeakError" = C_SpeakError := cA_of (PySem.W.mg_of X G aC_SpeakError)
  have e_NoTable : cA mg "NoTable" = C_NoTable := cA_of (PySem.W.mg_of X G aC_NoTable)
  have e_Looks : cA mg "Looks" = C_Looks := cA_of (PySem.W.mg_of X G aC_Looks)
  have e_NoLot : cA mg "NoLot" = C_NoLot := cA_of (PySem.W.mg_of X G aC_NoLot)
  exact ⟨(PySem.W.mg_none_of X G z_n_len), (PySem.W.mg_none_of X G z_n_bool), (PySem.W.mg_none_of X G z_n_int), (PySem.W.mg_none_of X G z_n_isinstance), (PySem.W.mg_none_of X G z_n_tuple), (⟨_, PySem.W.mg_of X G z_g_MOST_WARES, y_g_MOST_WARES⟩), (by rw [e_SpeakError]; exact PySem.W.mg_of X G aC_SpeakError), (by rw [e_SpeakError]; exact ⟨bi0_SpeakError, bi1_SpeakError, bi2_SpeakError⟩), (by rw [e_NoTable]; exact PySem.W.mg_of X G aC_NoTable), (by rw [e_NoTable]; exact ⟨ox_NoTable, o0_NoTable, o1_NoTable, o2_NoTable, o3_NoTable⟩), (by rw [e_NoTable]; exact na_NoTable_row), (PySem.W.mg_none_of X G z_n_enumerate), (PySem.W.mg_none_of X G z_n_list), (by rw [e_Looks]; exact PySem.W.mg_of X G aC_Looks), (by rw [e_Looks]; exact ⟨pg_Looks, hd_Looks, po_Looks, sa_Looks⟩), (by rw [e_Looks]; exact na_Looks_looks), (by rw [e_NoLot]; exact PySem.W.mg_of X G aC_NoLot), (by rw [e_NoLot]; exact ⟨xx_NoLot, xk_NoLot, xb_NoLot, xt_NoLot⟩), (PySem.W.mg_none_of X G z_n_range), (PySem.W.mg_none_of X G z_n_sorted), (PySem.W.mg_none_of X G z_n_abs), (PySem.W.mg_none_of X G z_n_sum), (PySem.W.mg_none_of X G z_n_min), (PySem.W.mg_none_of X G z_n_str), (PySem.W.mg_none_of X G z_n_max), (by rw [e_NoLot]; exact ⟨z0_NoLot, z1_NoLot, z2_NoLot, z3_NoLot, z4_NoLot, z5_NoLot, z6_NoLot, z7_NoLot⟩), (by rw [e_NoTable]; exact ⟨z0_NoTable, z1_NoTable, z2_NoTable, z3_NoTable, z4_NoTable, z5_NoTable, z6_NoTable, z7_NoTable⟩), (by rw [e_NoLot]; exact ⟨yb_NoLot, yi_NoLot, yt_NoLot⟩), (by rw [e_NoTable]; exact ⟨yb_NoTable, yi_NoTable, yt_NoTable⟩), (by rw [e_SpeakError]; exact ⟨yb_SpeakError, yi_SpeakError, yt_SpeakError⟩), (⟨f__law_cell, _, fun_mk (st := s__law_cell) l__law_cell c__law_cell k__law_cell, PySem.W.mg_of X G a__law_cell, (fun_mk (st := s__law_cell) l__law_cell c__law_cell k__law_cell).binds (ps := ["_law_script", "_law_k"]) fun _ _ _ _ _ _ us hl => match us, hl with | [_, _], _ => rfl⟩), (⟨f__law_mixed, _, fun_mk (st := s__law_mixed) l__law_mixed c__law_mixed k__law_mixed, PySem.W.mg_of X G a__law_mixed, (fun_mk (st := s__law_mixed) l__law_mixed c__law_mixed k__law_mixed).binds (ps := ["_law_cell_here", "_law_k"]) fun _ _ _ _ _ _ us hl => match us, hl with | [_, _], _ => rfl⟩), (⟨f_is_whole, _, fun_mk (st := s_is_whole) l_is_whole c_is_whole k_is_whole, PySem.W.mg_of X G a_is_whole, (fun_mk (st := s_is_whole) l_is_whole c_is_whole k_is_whole).binds (ps := ["thing", "low", "high"]) fun _ _ _ _ _ _ us hl => match us, hl with | [_, _, _], _ => rfl⟩), (⟨f_is_row, _, fun_mk (st := s_is_row) l_is_row c_is_row k_is_row, PySem.W.mg_of X G a_is_row, (fun_mk (st := s_is_row) l_is_row c_is_row k_is_row).binds (ps := ["thing"]) fun _ _ _ _ _ _ us hl => match us, hl with | [_], _ => rfl⟩), (by rw [e_NoTable]; exact ⟨f_NoTable___init__, _, fun_mk (st := s_NoTable___init__) l_NoTable___init__ c_NoTable___init__ k_NoTable___init__, a_NoTable___init__, i_NoTable___init__, (fun_mk (st := s_NoTable___init__) l_NoTable___init__ c_NoTable___init__ k_NoTable___init__).binds (ps := ["self", "row"]) fun _ _ _ _ _ _ us hl => match us, hl with | [_, _], _ => rfl⟩), (⟨f_need_rows, _, fun_mk (st := s_need_rows) l_need_rows c_need_rows k_need_rows, PySem.W.mg_of X G a_need_rows, (fun_mk (st := s_need_rows) l_need_rows c_need_rows k_need_rows).binds (ps := ["rows"]) fun _ _ _ _ _ _ us hl => match us, hl with | [_], _ => rfl⟩), (by rw [e_Looks]; exact ⟨f_Looks___init__, _, fun_mk (st := s_Looks___init__) l_Looks___init__ c_Looks___init__ k_Looks___init__, ⟨mk_Looks, a_Looks___init__, i_Looks___init__, kc_Looks⟩, (fun_mk (st := s_Looks___init__) l_Looks___init__ c_Looks___init__ k_Looks___init__).binds (ps := ["self", "rows"]) fun _ _ _ _ _ _ us hl => match us, hl with | [_, _], _ => rfl⟩), (by rw [e_Looks]; exact ⟨f_Looks_word_at, _, fun_mk (st := s_Looks_word_at) l_Looks_word_at c_Looks_word_at k_Looks_word_at, ⟨a_Looks_word_at, i_Looks_word_at, k_Looks_word_at⟩, (fun_mk (st := s_Looks_word_at) l_Looks_word_at c_Looks_word_at k_Looks_word_at).binds (ps := ["self", "looked", "found"]) fun _ _ _ _ _ _ us hl => match us, hl with | [_, _, _], _ => rfl⟩), (by rw [e_Looks]; exact ⟨f_Looks_need_lot, _, fun_mk (st := s_Looks_need_lot) l_Looks_need_lot c_Looks_need_lot k_Looks_need_lot, ⟨a_Looks_need_lot, i_Looks_need_lot, k_Looks_need_lot⟩, (fun_mk (st := s_Looks_need_lot) l_Looks_need_lot c_Looks_need_lot k_Looks_need_lot).binds (ps := ["self", "lot", "bad"]) fun _ _ _ _ _ _ us hl => match us, hl with | [_, _, _], _ => rfl⟩), (⟨f_sets_of, _, fun_mk (st := s_sets_of) l_sets_of c_sets_of k_sets_of, PySem.W.mg_of X G a_sets_of, (fun_mk (st := s_sets_of) l_sets_of c_sets_of k_sets_of).binds (ps := ["many", "some"]) fun _ _ _ _ _ _ us hl => match us, hl with | [_, _], _ => rfl⟩), (by rw [e_Looks]; exact ⟨f_Looks_endings, _, fun_mk (st := s_Looks_endings) l_Looks_endings c_Looks_endings k_Looks_endings, ⟨a_Looks_endings, i_Looks_endings, k_Looks_endings⟩, (fun_mk (st := s_Looks_endings) l_Looks_endings c_Looks_endings k_Looks_endings).binds (ps := ["self", "lot", "bad"]) fun _ _ _ _ _ _ us hl => match us, hl with | [_, _, _], _ => rfl⟩), (⟨f_divisor, _, fun_mk (st := s_divisor) l_divisor c_divisor k_divisor, PySem.W.mg_of X G a_divisor, (fun_mk (st := s_divisor) l_divisor c_divisor k_divisor).binds (ps := ["one", "other"]) fun _ _ _ _ _ _ us hl => match us, hl with | [_, _], _ => rfl⟩), (⟨f_share, _, fun_mk (st := s_share) l_share c_share k_share, PySem.W.mg_of X G a_share, (fun_mk (st := s_share) l_share c_share k_share).binds (ps := ["top", "bottom"]) fun _ _ _ _ _ _ us hl => match us, hl with | [_, _], _ => rfl⟩), (by rw [e_Looks]; exact ⟨f_Looks_let_by, _, fun_mk (st := s_Looks_let_by) l_Looks_let_by c_Looks_let_by k_Looks_let_by, ⟨a_Looks_let_by, i_Looks_let_by, k_Looks_let_by⟩, (fun_mk (st := s_Looks_let_by) l_Looks_let_by c_Looks_let_by k_Looks_let_by).binds (ps := ["self", "lot", "bad"]) fun _ _ _ _ _ _ us hl => match us, hl with | [_, _, _], _ => rfl⟩), (by rw [e_Looks]; exact ⟨f_Looks_looked_at, _, fun_mk (st := s_Looks_looked_at) l_Looks_looked_at c_Looks_looked_at k_Looks_looked_at, ⟨a_Looks_looked_at, i_Looks_looked_at, k_Looks_looked_at⟩, (fun_mk (st := s_Looks_looked_at) l_Looks_looked_at c_Looks_looked_at k_Looks_looked_at).binds (ps := ["self", "lot", "bad"]) fun _ _ _ _ _ _ us hl => match us, hl with | [_, _, _], _ => rfl⟩), (⟨f_are_wares, _, fun_mk (st := s_are_wares) l_are_wares c_are_wares k_are_wares, PySem.W.mg_of X G a_are_wares, (fun_mk (st := s_are_wares) l_are_wares c_are_wares k_are_wares).binds (ps := ["thing"]) fun _ _ _ _ _ _ us hl => match us, hl with | [_], _ => rfl⟩), (by rw [e_Looks]; exact ⟨f_Looks_judged, _, fun_mk (st := s_Looks_judged) l_Looks_judged c_Looks_judged k_Looks_judged, ⟨a_Looks_judged, i_Looks_judged, k_Looks_judged⟩, (fun_mk (st := s_Looks_judged) l_Looks_judged c_Looks_judged k_Looks_judged).binds (ps := ["self", "wares"]) fun _ _ _ _ _ _ us hl => match us, hl with | [_, _], _ => rfl⟩), (⟨f__law_rows, _, fun_mk (st := s__law_rows) l__law_rows c__law_rows k__law_rows, PySem.W.mg_of X G a__law_rows, (fun_mk (st := s__law_rows) l__law_rows c__law_rows k__law_rows).binds (ps := ["_law_cell_here"]) fun _ _ _ _ _ _ us hl => match us, hl with | [_], _ => rfl⟩), (⟨f__law_word, _, fun_mk (st := s__law_word) l__law_word c__law_word k__law_word, PySem.W.mg_of X G a__law_word, (fun_mk (st := s__law_word) l__law_word c__law_word k__law_word).binds (ps := ["_law_rows_here", "_law_looked", "_law_found"]) fun _ _ _ _ _ _ us hl => match us, hl with | [_, _, _], _ => rfl⟩), (⟨f__law_lowest, _, fun_mk (st := s__law_lowest) l__law_lowest c__law_lowest k__law_lowest, PySem.W.mg_of X G a__law_lowest, (fun_mk (st := s__law_lowest) l__law_lowest c__law_lowest k__law_lowest).binds (ps := ["_law_top", "_law_bottom"]) fun _ _ _ _ _ _ us hl => match us, hl with | [_, _], _ => rfl⟩), (⟨f__law_end, _, fun_mk (st := s__law_end) l__law_end c__law_end k__law_end, PySem.W.mg_of X G a__law_end, (fun_mk (st := s__law_end) l__law_end c__law_end k__law_end).binds (ps := ["_law_rows_here", "_law_wares"]) fun _ _ _ _ _ _ us hl => match us, hl with | [_, _], _ => rfl⟩), (⟨f__law_kinds, _, fun_mk (st := s__law_kinds) l__law_kinds c__law_kinds k__law_kinds, PySem.W.mg_of X G a__law_kinds, (fun_mk (st := s__law_kinds) l__law_kinds c__law_kinds k__law_kinds).binds (ps := ["_law_told"]) fun _ _ _ _ _ _ us hl => match us, hl with | [_], _ => rfl⟩), (⟨f__law_right, _, fun_mk (st := s__law_right) l__law_right c__law_right k__law_right, PySem.W.mg_of X G a__law_right, (fun_mk (st := s__law_right) l__law_right c__law_right k__law_right).binds (ps := ["_law_rows_here", "_law_lot", "_law_bad"]) fun _ _ _ _ _ _ us hl => match us, hl with | [_, _, _], _ => rfl⟩), (⟨f_law, _, fun_mk (st := s_law) l_law c_law k_law, PySem.W.mg_of X G a_law, (fun_mk (st := s_law) l_law c_law k_law).binds (ps := ["_law_script"]) fun _ _ _ _ _ _ us hl => match us, hl with | [_], _ => rfl⟩)⟩
theorem law_mk {P : Program} {w : World} {K : PySem.W.Frag} {mg : Str → Option Value} {fa : Addr} (T : Txt K mg) (hfa : mg "law" = some (.ref fa)) :
    ∃ fd : FuncData, (∀ (s : Shared) (v : Value), BindsTo s fd ⟨[v], []⟩ [("_law_script", v)]) ∧ ∀ base : Heap, K.In base → base.Ns mainGlobals mg → FnOk P w K mg base CX0 7 fa fd ["_law_script"] (sp_law K mg) := by
  obtain ⟨f, fd, F, hm, b⟩ := T.d_law.ex
  have e := hfa.symm.trans hm
  cases e
  refine ⟨fd, fun s v => ?_, fun base _ _ => c_law T F⟩
  obtain ⟨oc, od, kV, doc, pm, an, cdv, ct, osl, rfl, lk, hcd⟩ := F.ex
  exact .of_eq rfl
end My
open PySem PySem.W PyProof.Rows
set_option maxRecDepth 100000 in
set_option maxHeartbeats 0 in
theorem PySem.Challenge.cw_fewspeak_k83_whole_endings_counted_holds : PySem.Challenge.rw_fewspeak_k83_whole_endings_counted.Holds := by
  w_on; o_law; k_head; (case hw => w_witness2)
  k_fill
  refine L2.walk_ofB (l := PySem.Challenge.rw_fewspeak_k83_whole_endings_counted) (n := 63) (k := 7) (x := "_law_script") (CX := fun _ => L2.CX0) (sp := fun w => My.sp_law _ (fun _ => none)) rfl (by decide) rfl ⟨rfl, by decide, by decide⟩ (fun w h Y => PySem.W.kIn_of Y) ?F (fun _ _ a ns hl hb _ hS => ⟨ns, hS, hl, hb, fun _ => rfl⟩) (fun _ _ _ _ _ h => h)
  case F =>
    intro w mg fa h KX G hmg
    refine' My.law_mk (My.txt_mk KX G ?z_n_len ?z_n_bool ?z_n_int ?z_n_isinstance ?z_n_tuple ?z_g_MOST_WARES ?y_g_MOST_WARES ?aC_SpeakError ?bi0_SpeakError ?bi1_SpeakError ?bi2_SpeakError ?aC_NoTable ?ox_NoTable ?o0_NoTable ?o1_NoTable ?o2_NoTable ?o3_NoTable ?na_NoTable_row ?z_n_enumerate ?z_n_list ?aC_Looks ?pg_Looks ?hd_Looks ?po_Looks ?sa_Looks ?mk_Looks ?kc_Looks ?na_Looks_looks ?aC_NoLot ?xx_NoLot ?xk_NoLot ?xb_NoLot ?xt_NoLot ?z_n_range ?z_n_sorted ?z_n_abs ?z_n_sum ?z_n_min ?z_n_str ?z_n_max ?z0_NoLot ?z1_NoLot ?z2_NoLot ?z3_NoLot ?z4_NoLot ?z5_NoLot ?z6_NoLot ?z7_NoLot ?z0_NoTable ?z1_NoTable ?z2_NoTable ?z3_NoTable ?z4_NoTable ?z5_NoTable ?z6_NoTable ?z7_NoTable ?yb_NoLot ?yi_NoLot ?yt_NoLot ?yb_NoTable ?yi_NoTable ?yt_NoTable ?yb_SpeakError ?yi_SpeakError ?yt_SpeakError ?a__law_cell ?l__law_cell ?c__law_cell ?k__law_cell ?a__law_mixed ?l__law_mixed ?c__law_mixed ?k__law_mixed ?a_is_whole ?l_is_whole ?c_is_whole ?k_is_whole ?a_is_row ?l_is_row ?c_is_row ?k_is_row ?a_NoTable___init__ ?i_NoTable___init__ ?l_NoTable___init__ ?c_NoTable___init__ ?k_NoTable___init__ ?a_need_rows ?l_need_rows ?c_need_rows ?k_need_rows ?a_Looks___init__ ?i_Looks___init__ ?l_Looks___init__ ?c_Looks___init__ ?k_Looks___init__ ?a_Looks_word_at ?i_Looks_word_at ?l_Looks_word_at ?c_Looks_word_at ?k_Looks_word_at ?a_Looks_need_lot ?i_Looks_need_lot ?l_Looks_need_lot ?c_Looks_need_lot ?k_Looks_need_lot ?a_sets_of ?l_sets_of ?c_sets_of ?k_sets_of ?a_Looks_endings ?i_Looks_endings ?l_Looks_endings ?c_Looks_endings ?k_Looks_endings ?a_divisor ?l_divisor ?c_divisor ?k_divisor ?a_share ?l_share ?c_share ?k_share ?a_Looks_let_by ?i_Looks_let_by ?l_Looks_let_by ?c_Looks_let_by ?k_Looks_let_by ?a_Looks_looked_at ?i_Looks_looked_at ?l_Looks_looked_at ?c_Looks_looked_at ?k_Looks_looked_at ?a_are_wares ?l_are_wares ?c_are_wares ?k_are_wares ?a_Looks_judged ?i_Looks_judged ?l_Looks_judged ?c_Looks_judged ?k_Looks_judged ?a__law_rows ?l__law_rows ?c__law_rows ?k__law_rows ?a__law_word ?l__law_word ?c__law_word ?k__law_word ?a__law_lowest ?l__law_lowest ?c__law_lowest ?k__law_lowest ?a__law_end ?l__law_end ?c__law_end ?k__law_end ?a__law_kinds ?l__law_kinds ?c__law_kinds ?k__law_kinds ?a__law_right ?l__law_right ?c__law_right ?k__law_right ?a_law ?l_law ?c_law ?k_law) hmg
    (case z_n_len => k_is)
    (case z_n_bool => k_is)
    (case z_n_int => k_is)
    (case z_n_isinstance => k_is)
    (case z_n_tuple => k_is)
    (case z_g_MOST_WARES => k_is)
    (case y_g_MOST_WARES => exact ⟨_, rfl⟩)
    (case aC_SpeakError => k_is)
    (case bi0_SpeakError => k_is)
    (case bi1_SpeakError => k_is)
    (case bi2_SpeakError => k_is)
    (case aC_NoTable => k_is)
    (case ox_NoTable => first | exact ⟨_, _, _, _, _, _, _, _, _, _, _, _, _, _, _, by k_is, by first | rfl | decide +kernel | k_is⟩ | exact ⟨_, _, _, _, _, _, _, _, _, _, _, _, _, _, _, rfl, by first | rfl | decide +kernel⟩)
    (case o0_NoTable => k_is)
    (case o1_NoTable => k_is)
    (case o2_NoTable => k_is)
    (case o3_NoTable => k_is)
    (case na_NoTable_row => k_is)
    (case z_n_enumerate => k_is)
    (case z_n_list => k_is)
    (case aC_Looks => k_is)
    (case pg_Looks => k_is)
    (case hd_Looks => k_is)
    (case po_Looks => k_is)
    (case sa_Looks => k_is)
    (case mk_Looks => k_is)
    (case kc_Looks => k_is)
    (case na_Looks_looks => k_is)
    (case aC_NoLot => k_is)
    (case xx_NoLot => k_exc)
    (case xk_NoLot => k_is)
    (case xb_NoLot => k_is)
    (case xt_NoLot => k_is)
    (case z_n_range => k_is)
    (case z_n_sorted => k_is)
    (case z_n_abs => k_is)
    (case z_n_sum => k_is)
    (case z_n_min => k_is)
    (case z_n_str => k_is)
    (case z_n_max => k_is)
    (case z0_NoLot => k_is)
    (case z1_NoLot => k_is)
    (case z2_NoLot => k_is)
    (case z3_NoLot => k_is)
    (case z4_NoLot => k_is)
    (case z5_NoLot => k_is)
    (case z6_NoLot => k_is)
    (case z7_NoLot => k_is)
    (case z0_NoTable => k_is)
    (case z1_NoTable => k_is)
    (case z2_NoTable => k_is)
    (case z3_NoTable => k_is)
    (case z4_NoTable => k_is)
    (case z5_NoTable => k_is)
    (case z6_NoTable => k_is)
    (case z7_NoTable => k_is)
    (case yb_NoLot => k_is)
    (case yi_NoLot => k_is)
    (case yt_NoLot => k_is)
    (case yb_NoTable => k_is)
    (case yi_NoTable => k_is)
    (case yt_NoTable => k_is)
    (case yb_SpeakError => k_is)
    (case yi_SpeakError => k_is)
    (case yt_SpeakError => k_is)
    (case a__law_cell => k_is)
    (case l__law_cell => k_is)
    (case c__law_cell => k_is)
    (case k__law_cell => k_is)
    (case a__law_mixed => k_is)
    (case l__law_mixed => k_is)
    (case c__law_mixed => k_is)
    (case k__law_mixed => k_is)
    (case a_is_whole => k_is)
    (case l_is_whole => k_is)
    (case c_is_whole => k_is)
    (case k_is_whole => k_is)
    (case a_is_row => k_is)
    (case l_is_row => k_is)
    (case c_is_row => k_is)
    (case k_is_row => k_is)
    (case a_NoTable___init__ => k_is)
    (case i_NoTable___init__ => k_is)
    (case l_NoTable___init__ => k_is)
    (case c_NoTable___init__ => k_is)
    (case k_NoTable___init__ => k_is)
    (case a_need_rows => k_is)
    (case l_need_rows => k_is)
    (case c_need_rows => k_is)
    (case k_need_rows => k_is)
    (case a_Looks___init__ => k_is)
    (case i_Looks___init__ => k_is)
    (case l_Looks___init__ => k_is)
    (case c_Looks___init__ => k_is)
    (case k_Looks___init__ => k_is)
    (case a_Looks_word_at => k_is)
    (case i_Looks_word_at => k_is)
    (case l_Looks_word_at => k_is)
    (case c_Looks_word_at => k_is)
    (case k_Looks_word_at => k_is)
    (case a_Looks_need_lot => k_is)
    (case i_Looks_need_lot => k_is)
    (case l_Looks_need_lot => k_is)
    (case c_Looks_need_lot => k_is)
    (case k_Looks_need_lot => k_is)
    (case a_sets_of => k_is)
    (case l_sets_of => k_is)
    (case c_sets_of => k_is)
    (case k_sets_of => k_is)
    (case a_Looks_endings => k_is)
    (case i_Looks_endings => k_is)
    (case l_Looks_endings => k_is)
    (case c_Looks_endings => k_is)
    (case k_Looks_endings => k_is)
    (case a_divisor => k_is)
    (case l_divisor => k_is)
    (case c_divisor => k_is)
    (case k_divisor => k_is)
    (case a_share => k_is)
    (case l_share => k_is)
    (case c_share => k_is)
    (case k_share => k_is)
    (case a_Looks_let_by => k_is)
    (case i_Looks_let_by => k_is)
    (case l_Looks_let_by => k_is)
    (case c_Looks_let_by => k_is)
    (case k_Looks_let_by => k_is)
    (case a_Looks_looked_at => k_is)
    (case i_Looks_looked_at => k_is)
    (case l_Looks_looked_at => k_is)
    (case c_Looks_looked_at => k_is)
    (case k_Looks_looked_at => k_is)
    (case a_are_wares => k_is)
    (case l_are_wares => k_is)
    (case c_are_wares => k_is)
    (case k_are_wares => k_is)
    (case a_Looks_judged => k_is)
    (case i_Looks_judged => k_is)
    (case l_Looks_judged => k_is)
    (case c_Looks_judged => k_is)
    (case k_Looks_judged => k_is)
    (case a__law_rows => k_is)
    (case l__law_rows => k_is)
    (case c__law_rows => k_is)
    (case k__law_rows => k_is)
    (case a__law_word => k_is)
    (case l__law_word => k_is)
    (case c__law_word => k_is)
    (case k__law_word => k_is)
    (case a__law_lowest => k_is)
    (case l__law_lowest => k_is)
    (case c__law_lowest => k_is)
    (case k__law_lowest => k_is)
    (case a__law_end => k_is)
    (case l__law_end => k_is)
    (case c__law_end => k_is)
    (case k__law_end => k_is)
    (case a__law_kinds => k_is)
    (case l__law_kinds => k_is)
    (case c__law_kinds => k_is)
    (case k__law_kinds => k_is)
    (case a__law_right => k_is)
    (case l__law_right => k_is)
    (case c__law_right => k_is)
    (case k__law_right => k_is)
    (case a_law => k_is)
    (case l_law => k_is)
    (case c_law => k_is)
    (case k_law => k_is)
#print axioms PySem.Challenge.cw_fewspeak_k83_whole_endings_counted_holds

