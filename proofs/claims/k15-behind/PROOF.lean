import PyProof.Rows.All
import Wide.All
import OpenK.AllK
import Wide.FinOn
import HandS.ForMost
import HandS.Exc
import HandS.TryOnly
import HandS.ExcOwn
import HandS.WordsExc
import HandS.Wide
import HandS.IsInst
import HandS.EndBits
import HandS.Conv
import HandS.Style
import HandS.TupAny
import HandS.Evl
import HandS.Walk
import HandS.ExcIs
import HandS.ExcInit
import HandS.ExcField
import HandS.ExcValue
import HandS.SetKeys
import KE.KExcIs
import HandS.Iter
import HandS.Defaults
import HandS.CallSlots
import HandS.More
import PyProof.StrBlock2
import HandS.Lambda
import HandS.Nested
import HandS.EndTab
import KE.KLam
import KE.KNestM
import HandS.DictTup
import KE.KDictPairs
import KE.KDictDisplayH
import HandS.ExcInitHot
import HandS.NamedTupSort
import HandS.SortInts
import HandS.SortOrd
import HandS.SortRule
import HandS.TupSets
import KE.KDictCopyH
import HandS.Text
import HandS.ListItems
import HandS.Dict
import PySem.Challenge.RW_fewspeak_k15_one_behind_another
set_option Elab.async false
set_option linter.all false
set_option maxRecDepth 100000
set_option maxHeartbeats 4000000
namespace Kt
open PySem PySem.Spec PyProof.Rows L2
/-- a def of the top, as it stands behind the top -/
structure DefAt (K : PySem.W.Frag) (mg : Str → Option Value) (x : Str) (st : Stmt) (ps : List Str) : Prop where
  ex : ∃ (f : Addr) (fd : FuncData), Fun K x x st f fd ∧ mg x = some (.ref f) ∧ Binds K fd ps []
/-- a method of the class at C -/
structure MethAt (K : PySem.W.Frag) (C : Addr) (m qual : Str) (st : Stmt) (ps : List Str) : Prop where
  ex : ∃ (f : Addr) (fd : FuncData), Fun K m qual st f fd ∧ Meth K C m f ∧ Binds K fd ps []
structure InitAt (K : PySem.W.Frag) (C : Addr) (qual : Str) (st : Stmt) (ps : List Str) : Prop where
  ex : ∃ (f : Addr) (fd : FuncData), Fun K "__init__" qual st f fd ∧ Mk K C f ∧ Binds K fd ps []
/-- the class that a name of the module holds -/
def cA (mg : Str → Option Value) (x : Str) : Addr := match mg x with | some (.ref a) => a | _ => 0
theorem cA_of {mg : Str → Option Value} {x : Str} {a : Addr} (h : mg x = some (.ref a)) : cA mg x = a := by unfold cA; rw [h]
/-- a def that may be called by its name; a method of the class at C; a class that may be made -/
structure Cal (P : Program) (w : World) (K : PySem.W.Frag) (mg : Str → Option Value) (base : Heap) (k : Nat) (x : Str) (sp : Sp) : Prop where
  ex : ∃ (f : Addr) (fd : FuncData) (ps : List Str), FnOk P w K mg base CX0 k f fd ps sp ∧ mg x = some (.ref f) ∧ PySem.W.keepIn K (.ref f) = true ∧ Binds K fd ps []
structure Met (P : Program) (w : World) (K : PySem.W.Frag) (mg : Str → Option Value) (base : Heap) (k : Nat) (C : Addr) (m : Str) (sp : Sp) : Prop where
  ex : ∃ (f : Addr) (fd : FuncData) (ps : List Str), Cls K C ∧ Meth K C m f ∧ FnOk P w K mg base CX0 k f fd ps sp ∧ Binds K fd ps []
structure Mak (P : Program) (w : World) (K : PySem.W.Frag) (mg : Str → Option Value) (base : Heap) (k : Nat) (x : Str) (C : Addr) (sp : Sp) : Prop where
  ex : ∃ (f : Addr) (fd : FuncData) (ps : List Str), Mk K C f ∧ FnOk P w K mg base CX0 k f fd ps sp ∧ mg x = some (.ref C) ∧ Binds K fd ps []
section
variable {P : Program} {w : World} {K : PySem.W.Frag} {mg : Str → Option Value} {base : Heap}
theorem DefAt.cal {x : Str} {st : Stmt} {N ps : List Str} {k : Nat} {sp : Sp} (d : DefAt K mg x st ps) (S : FnScope N ps (defScope st)) (len : ∀ vs H Q E, sp vs H Q E → vs.length = ps.length)
    (hbody : ∀ (f : Addr) (cdv : Value) (A : Around) (outer : List Env) (s : Shared) (H : Hp) (vs : List V) (Q : VK) (E : XK), Room k (A.deeper (envOfC x (defScope st) s.heap.objs.size f cdv)) → sp vs H Q E →
      ∃ t, PSs (cxOf CX0 P w K mg base N x (defScope st) f cdv A outer s H E).nox (defBody st) t ∧ t { nx := fun _ H' => Q .non H', rt := Q } (start N vs) H) : Cal P w K mg base (k + 1) x sp := by
  obtain ⟨f, fd, F, hm, b⟩ := d.ex
  exact ⟨f, fd, ps, F.ok S len (hbody f), hm, F.kp, b⟩
/-- a def of the top by one more name -/
structure DefAtA (K : PySem.W.Frag) (mg : Str → Option Value) (x nm : Str) (st : Stmt) (ps : List Str) : Prop where
  ex : ∃ (f : Addr) (fd : FuncData), Fun K nm nm st f fd ∧ mg x = some (.ref f) ∧ Binds K fd ps []
theorem DefAtA.cal {x nm : Str} {st : Stmt} {N ps : List Str} {k : Nat} {sp : Sp} (d : DefAtA K mg x nm st ps) (S : FnScope N ps (defScope st)) (len : ∀ vs H Q E, sp vs H Q E → vs.length = ps.length)
    (hbody : ∀ (f : Addr) (cdv : Value) (A : Around) (outer : List Env) (s : Shared) (H : Hp) (vs : List V) (Q : VK) (E : XK), Room k (A.deeper (envOfC nm (defScope st) s.heap.objs.size f cdv)) → sp vs H Q E →
      ∃ t, PSs (cxOf CX0 P w K mg base N nm (defScope st) f cdv A outer s H E).nox (defBody st) t ∧ t { nx := fun _ H' => Q .non H', rt := Q } (start N vs) H) : Cal P w K mg base (k + 1) x sp := by
  obtain ⟨f, fd, F, hm, b⟩ := d.ex
  exact ⟨f, fd, ps, F.ok S len (hbody f), hm, F.kp, b⟩
theorem MethAt.met {C : Addr} {m qual : Str} {st : Stmt} {N ps : List Str} {k : Nat} {sp : Sp} (c : Cls K C) (d : MethAt K C m qual st ps) (S : FnScope N ps (defScope st)) (len : ∀ vs H Q E, sp vs H Q E → vs.length = ps.length)
    (hbody : ∀ (f : Addr) (cdv : Value) (A : Around) (outer : List Env) (s : Shared) (H : Hp) (vs : List V) (Q : VK) (E : XK), Room k (A.deeper (envOfC qual (defScope st) s.heap.objs.size f cdv)) → sp vs H Q E →
      ∃ t, PSs (cxOf CX0 P w K mg base N qual (defScope st) f cdv A outer s H E).nox (defBody st) t ∧ t { nx := fun _ H' => Q .non H', rt := Q } (start N vs) H) : Met P w K mg base (k + 1) C m sp := by
  obtain ⟨f, fd, F, hm, b⟩ := d.ex
  exact ⟨f, fd, ps, c, hm, F.ok S len (hbody f), b⟩
theorem InitAt.mak {x : Str} {C : Addr} {qual : Str} {st : Stmt} {N ps : List Str} {k : Nat} {sp : Sp} (hx : mg x = some (.ref C)) (d : InitAt K C qual st ps) (S : FnScope N ps (defScope st)) (len : ∀ vs H Q E, sp vs H Q E → vs.length = ps.length)
    (hbody : ∀ (f : Addr) (cdv : Value) (A : Around) (outer : List Env) (s : Shared) (H : Hp) (vs : List V) (Q : VK) (E : XK), Room k (A.deeper (envOfC qual (defScope st) s.heap.objs.size f cdv)) → sp vs H Q E →
      ∃ t, PSs (cxOf CX0 P w K mg base N qual (defScope st) f cdv A outer s H E).nox (defBody st) t ∧ t { nx := fun _ H' => Q .non H', rt := Q } (start N vs) H) : Mak P w K mg base (k + 1) x C sp := by
  obtain ⟨f, fd, F, hm, b⟩ := d.ex
  exact ⟨f, fd, ps, hm, F.ok S len (hbody f), hx, b⟩
/-- a def that may raise -/
structure CalX (P : Program) (w : World) (K : PySem.W.Frag) (mg : Str → Option Value) (base : Heap) (k : Nat) (x : Str) (sp : Sp) : Prop where
  ex : ∃ (f : Addr) (fd : FuncData) (ps : List Str), FnOk P w K mg base (L2.CX P w) k f fd ps sp ∧ mg x = some (.ref f) ∧ PySem.W.keepIn K (.ref f) = true ∧ Binds K fd ps []
theorem DefAt.calX {x : Str} {st : Stmt} {N ps : List Str} {k : Nat} {sp : Sp} (d : DefAt K mg x st ps) (S : FnScope N ps (defScope st)) (len : ∀ vs H Q E, sp vs H Q E → vs.length = ps.length)
    (hbody : ∀ (f : Addr) (cdv : Value) (A : Around) (outer : List Env) (s : Shared) (H : Hp) (vs : List V) (Q : VK) (E : XK), Room k (A.deeper (envOfC x (defScope st) s.heap.objs.size f cdv)) → sp vs H Q E →
      ∃ t, PSs (cxOf (L2.CX P w) P w K mg base N x (defScope st) f cdv A outer s H E) (defBody st) t ∧ t { nx := fun _ H' => Q .non H', rt := Q } (start N vs) H) : CalX P w K mg base (k + 1) x sp := by
  obtain ⟨f, fd, F, hm, b⟩ := d.ex
  exact ⟨f, fd, ps, F.okX S len (hbody f), hm, F.kp, b⟩
theorem DefAtA.calX {x nm : Str} {st : Stmt} {N ps : List Str} {k : Nat} {sp : Sp} (d : DefAtA K mg x nm st ps) (S : FnScope N ps (defScope st)) (len : ∀ vs H Q E, sp vs H Q E → vs.length = ps.length)
    (hbody : ∀ (f : Addr) (cdv : Value) (A : Around) (outer : List Env) (s : Shared) (H : Hp) (vs : List V) (Q : VK) (E : XK), Room k (A.deeper (envOfC nm (defScope st) s.heap.objs.size f cdv)) → sp vs H Q E →
      ∃ t, PSs (cxOf (L2.CX P w) P w K mg base N nm (defScope st) f cdv A outer s H E) (defBody st) t ∧ t { nx := fun _ H' => Q .non H', rt := Q } (start N vs) H) : CalX P w K mg base (k + 1) x sp := by
  obtain ⟨f, fd, F, hm, b⟩ := d.ex
  exact ⟨f, fd, ps, F.okX S len (hbody f), hm, F.kp, b⟩
end
section
variable {X : Cx} {k j : Nat} {C : Addr} {x m : Str} {sp : Sp} {p pos apos : Pos} {e o : Expr} {es : List Expr} {ta : TE} {t : TA}
theorem pe_c (c : Cal X.prog X.w X.K X.mg X.base k x sp) (hr : Room j X.A) (hk : k ≤ j) (hg : Gl X x) (ha : PA X (e :: es) t)
    (hdb : (x == ("__debug__" : Str)) = false := by decide) (he : starEach (e :: es) X.env = (false, eval e X.env) :: starEach es X.env := by rfl) (hpl : (backTo pos (starEach es X.env)).any (·.1) = false := by rfl) :
    PE X (.Call (.Name x p) (e :: es) [] pos) (tCall sp [] E0 t) := by
  obtain ⟨f, fd, ps, F, hm, kp, b⟩ := c.ex
  exact pe_call F (hr.mono hk) hg hm kp b .nil pass0 ha hdb he hpl
theorem pe_c0 (c : Cal X.prog X.w X.K X.mg X.base k x sp) (hr : Room j X.A) (hk : k ≤ j) (hg : Gl X x)
    (hdb : (x == ("__debug__" : Str)) = false := by decide) :
    PE X (.Call (.Name x p) [] [] pos) (tCall sp [] E0 tNil) := by
  obtain ⟨f, fd, ps, F, hm, kp, b⟩ := c.ex
  exact pe_call0 F (hr.mono hk) hg hm kp b .nil pass0 hdb
theorem pe_mk (c : Mak X.prog X.w X.K X.mg X.base k x C sp) (hr : Room j X.A) (hk : k + 1 ≤ j) (hg : Gl X x) (ha : PA X (e :: es) t)
    (hdb : (x == ("__debug__" : Str)) = false := by decide) (he : starEach (e :: es) X.env = (false, eval e X.env) :: starEach es X.env := by rfl) (hpl : (backTo pos (starEach es X.env)).any (·.1) = false := by rfl) :
    PE X (.Call (.Name x p) (e :: es) [] pos) (tMake C sp [] E0 t) := by
  obtain ⟨f, fd, ps, M, F, hm, b⟩ := c.ex
  exact pe_make M F (hr.mono hk) hg hm b .nil pass0 ha hdb he hpl
theorem pe_mk0 (c : Mak X.prog X.w X.K X.mg X.base k x C sp) (hr : Room j X.A) (hk : k + 1 ≤ j) (hg : Gl X x)
    (hdb : (x == ("__debug__" : Str)) = false := by decide) : PE X (.Call (.Name x p) [] [] pos) (tMake C sp [] E0 tNil) := by
  obtain ⟨f, fd, ps, M, F, hm, b⟩ := c.ex
  exact pe_make0 M F (hr.mono hk) hg hm b .nil pass0 hdb
theorem pe_mt {pl : Sem Bool} (c : Met X.prog X.w X.K X.mg X.base k C m sp) (hr : Room j X.A) (hk : k ≤ j) (he : PE X o ta) (ha : PA X (e :: es) t)
    (hst : starEach (e :: es) X.env = (false, eval e X.env) :: starEach es X.env := by rfl) (hpl : (backTo pos (starEach es X.env)).any (·.1) = false := by rfl)
    (ht : eval (.Call (.Attribute o m apos) (e :: es) [] pos) X.env = (do
      let ov ← eval o X.env
      standAt apos.atName
      let (f, first) ← holding [ov] (getMethod ov m pl)
      callWith pos f first (backTo pos (starEach (e :: es) X.env)) (backToKw pos (keywordEach [] X.env))) := by rfl) :
    PE X (.Call (.Attribute o m apos) (e :: es) [] pos) (tMeth C m sp [] E0 ta t) := by
  obtain ⟨f, fd, ps, hc, hm, F, b⟩ := c.ex
  exact pe_meth (pl := pl) he hc hm F (hr.mono hk) b .nil pass0 ha hst hpl ht
theorem pe_mt0 {pl : Sem Bool} (c : Met X.prog X.w X.K X.mg X.base k C m sp) (hr : Room j X.A) (hk : k ≤ j) (he : PE X o ta)
    (ht : eval (.Call (.Attribute o m apos) [] [] pos) X.env = (do
      let ov ← eval o X.env
      standAt apos.atName
      let (f, first) ← holding [ov] (getMethod ov m pl)
      callWith pos f first (backTo pos (starEach [] X.env)) (backToKw pos (keywordEach [] X.env))) := by rfl) :
    PE X (.Call (.Attribute o m apos) [] [] pos) (tMeth C m sp [] E0 ta tNil) := by
  obtain ⟨f, fd, ps, hc, hm, F, b⟩ := c.ex
  exact pe_meth0 (pl := pl) he hc hm F (hr.mono hk) b .nil pass0 ht
/-- a call of a def that may raise, where nothing is raised -/
theorem pe_x0 (c : CalX X.prog X.w X.K X.mg X.base k x sp) (hr : Room j X.A) (hk : k ≤ j) (hg : Gl X x) (ha : PA X (e :: es) t)
    (hdb : (x == ("__debug__" : Str)) = false := by decide) (he : starEach (e :: es) X.env = (false, eval e X.env) :: starEach es X.env := by rfl) (hpl : (backTo pos (starEach es X.env)).any (·.1) = false := by rfl) :
    PE X (.Call (.Name x p) (e :: es) [] pos) (tCall sp [] E0 t) := by
  obtain ⟨f, fd, ps, F, hm, kp, b⟩ := c.ex
  exact pe_call F (hr.mono hk) hg hm kp b .nil passL ha hdb he hpl
end
/-- a built-in class as a value -/
theorem pe_ty {X : Cx} {x : Str} {pos : Pos} (n : String) (hg : Gl X x) (hm : X.mg x = none) (hv : bootBuiltins x = some (.type n)) (hn : x ≠ "__name__" := by decide) (hdb : (x == ("__debug__" : Str)) = false := by decide) : PE X (.Name x pos) (tC (.ty n)) :=
  pe_bltn hg hm hv rfl hn hdb
/-- a constant of the module -/
theorem pe_gc {X : Cx} {x : Str} {pos : Pos} {v : V} (hg : Gl X x) (h : ∃ u, X.mg x = some u ∧ RelV v u) (hdb : (x == ("__debug__" : Str)) = false := by decide) : PE X (.Name x pos) (tC v) := by
  obtain ⟨u, h1, h2⟩ := h
  exact pe_glob hg h1 h2 hdb
/-! ### heaps -/
theorem hp_new {H : Hp} {a b : Addr} {o o' : HO} (h : H a = none) (h' : H b = some o') : upd H a o b = some o' := by
  rw [upd_ne (ne_of_none h' h)]; exact h'
theorem hp_same {H H' : Hp} {b : Addr} {o : HO} (e : Same H H') (h : H b = some o) : H' b = some o := e b o h
theorem same_upd {H H' : Hp} {a : Addr} {o : HO} (e : Same H H') (h : H' a = none) : Same H (upd H' a o) := fun b o' q => hp_new h (e b o' q)
theorem same_new {H : Hp} {a : Addr} {o : HO} (h : H a = none) : Same H (upd H a o) := fun b o' q => hp_new h q
theorem cxOf_K {CX : CXT} {P : Program} {w : World} {K : PySem.W.Frag} {mg : Str → Option Value} {base : Heap} {N : List Str} {qual : Str} {scope : Scope} {f : Addr} {cd : Value} {A : Around} {outer : List Env} {s : Shared} {H : Hp} {E : XK} : (cxOf CX P w K mg base N qual scope f cd A outer s H E).nox.K = K := rfl
theorem cxOf_K' {CX : CXT} {P : Program} {w : World} {K : PySem.W.Frag} {mg : Str → Option Value} {base : Heap} {N : List Str} {qual : Str} {scope : Scope} {f : Addr} {cd : Value} {A : Around} {outer : List Env} {s : Shared} {H : Hp} {E : XK} : (cxOf CX P w K mg base N qual scope f cd A outer s H E).K = K := rfl
theorem cxOf_mg {CX : CXT} {P : Program} {w : World} {K : PySem.W.Frag} {mg : Str → Option Value} {base : Heap} {N : List Str} {qual : Str} {scope : Scope} {f : Addr} {cd : Value} {A : Around} {outer : List Env} {s : Shared} {H : Hp} {E : XK} : (cxOf CX P w K mg base N qual scope f cd A outer s H E).nox.mg = mg := rfl
theorem cxOf_mg' {CX : CXT} {P : Program} {w : World} {K : PySem.W.Frag} {mg : Str → Option Value} {base : Heap} {N : List Str} {qual : Str} {scope : Scope} {f : Addr} {cd : Value} {A : Around} {outer : List Env} {s : Shared} {H : Hp} {E : XK} : (cxOf CX P w K mg base N qual scope f cd A outer s H E).mg = mg := rfl
/-- a new tuple, a new list: all that stood stands -/
def NewT (H : Hp) (xs : List V) (Q : VK) : Prop := ∀ p H', H p = none → Same H H' → H' p = some (.tup xs) → Q (.ref p) H'
def NewL (H : Hp) (xs : List V) (Q : VK) : Prop := ∀ p H', H p = none → Same H H' → H' p = some (.lst xs) → Q (.ref p) H'
theorem NewT.at {H : Hp} {xs : List V} {Q : VK} (q : NewT H xs Q) (p : Addr) (h : H p = none) : Q (.ref p) (upd H p (.tup xs)) := q p _ h (same_new h) upd_same
theorem NewL.at {H : Hp} {xs : List V} {Q : VK} (q : NewL H xs Q) (p : Addr) (h : H p = none) : Q (.ref p) (upd H p (.lst xs)) := q p _ h (same_new h) upd_same
theorem NewT.of {H H' : Hp} {xs : List V} {Q : VK} (q : NewT H xs Q) (e : Same H H') : NewT H' xs Q := fun p H2 h s x => q p H2 (e.free h) (e.trans s) x
theorem NewL.of {H H' : Hp} {xs : List V} {Q : VK} (q : NewL H xs Q) (e : Same H H') : NewL H' xs Q := fun p H2 h s x => q p H2 (e.free h) (e.trans s) x
/-! ### readings by name -/
section
variable {X : Cx}
def aAdd (K : PySem.W.Frag) : R2 := fun x y H Q => rI0 (fun i j => .int (i + j)) x y H Q ∨ (∃ i j, x = .str i ∧ y = .str j ∧ i.length + j.length ≤ sizeLine ∧ Q (.str (i ++ j)) H) ∨ rCat x y H Q ∨ rCatA K x y H Q
theorem op_addA : OpR X (binaryOp .Add) (aAdd X.K) := op_add.or (op_add_str.or (op_cat.or op_catA))
def aMul : R2 := fun x y H Q => rI CMulW (fun i j => .int (i * j)) x y H Q ∨ rRep x y H Q
theorem op_mulA : OpR X (binaryOp .Mult) aMul := op_mulW.or op_rep
def aEq (K : PySem.W.Frag) : R2 := fun x y H Q => rEq x y H Q ∨ rEqD K x y H Q
theorem op_eqA {k : Nat} (hr : Room k X.A) : OpR X (compareOp .Eq) (aEq X.K) := op_eq.or (op_eqD hr.units)
def aNe (K : PySem.W.Frag) : R2 := fun x y H Q => rNe x y H Q ∨ rNeD K x y H Q
theorem op_neA {k : Nat} (hr : Room k X.A) : OpR X (compareOp .NotEq) (aNe X.K) := op_ne.or (op_neD hr.units)
def aLe : R2 := fun x y H Q => rI0 (fun i j => .bl (decide (i ≤ j))) x y H Q ∨ ∃ i j, x = .str i ∧ y = .str j ∧ Q (.bl (!decide (j.cps.toList < i.cps.toList))) H
theorem op_leA : OpR X (compareOp .LtE) aLe := op_le.or op_le_str
def aLt : R2 := fun x y H Q => rI0 (fun i j => .bl (decide (i < j))) x y H Q ∨ ∃ i j, x = .str i ∧ y = .str j ∧ Q (.bl (decide (i.cps.toList < j.cps.toList))) H
theorem op_ltA : OpR X (compareOp .Lt) aLt := op_lt.or op_lt_str
def aIn (K : PySem.W.Frag) : R2 := fun x y H Q => (∃ (c : Nat) (z : Str), x = .str ⟨#[c]⟩ ∧ y = .str z ∧ Q (.bl (decide (c ∈ z.cps.toList))) H) ∨ rIn K false x y H Q
theorem op_inA : OpR X (compareOp .In) (aIn X.K) := op_in_sign.or op_in_seq
def aNotIn (K : PySem.W.Frag) : R2 := fun x y H Q => (∃ (c : Nat) (z : Str), x = .str ⟨#[c]⟩ ∧ y = .str z ∧ Q (.bl (!decide (c ∈ z.cps.toList))) H) ∨ rIn K true x y H Q
theorem op_notInA : OpR X (compareOp .NotIn) (aNotIn X.K) := op_notIn_sign.or op_notIn_seq
def aLen (K : PySem.W.Frag) : List V → Hp → VK → Prop := fun xs H Q => (∃ p ys, xs = [.ref p] ∧ (SqL K H p ys ∨ SqT K H p ys) ∧ Q (.int ys.length) H) ∨ (∃ z, xs = [.str z] ∧ z.length ≤ sizeLine ∧ Q (.int z.length) H) ∨ (∃ a kvs, xs = [V.ref a] ∧ H a = some (.dK kvs) ∧ Q (.int kvs.length) H)
theorem call_lenA : CallR X (.builtin "len") (aLen X.K) := call_len_seq.or (call_len_str.or call_lenD)
def aAbs : List V → Hp → VK → Prop := fun xs H Q => ∃ i, xs = [.int i] ∧ Q (.int (if i < 0 then -i else i)) H
theorem call_absA : CallR X (.builtin "abs") aAbs := call_abs
def aMax2 : List V → Hp → VK → Prop := fun xs H Q => ∃ i j, xs = [.int i, .int j] ∧ Q (.int (if j > i then j else i)) H
theorem call_max2A (hc : X.calm = true) : CallR X (.builtin "max") aMax2 := call_max2 hc
def aMin2 : List V → Hp → VK → Prop := fun xs H Q => ∃ i j, xs = [.int i, .int j] ∧ Q (.int (if j < i then j else i)) H
theorem call_min2A (hc : X.calm = true) : CallR X (.builtin "min") aMin2 := call_min2 hc
def aInt1 : List V → Hp → VK → Prop := fun xs H Q => (∃ i, xs = [.int i] ∧ Q (.int i) H) ∨ ∃ k, xs = [.bl k] ∧ Q (.int (if k then 1 else 0)) H
theorem call_int1A : CallR X (.type "int") aInt1 := call_int1
def aStr1 : List V → Hp → VK → Prop := fun xs H Q => ∃ i, xs = [.int i] ∧ i.natAbs.log2 < 1920 ∧ Q (.str (toString i)) H
theorem call_str1A : CallR X (.type "str") aStr1 := call_str_int
def aList1 (K : PySem.W.Frag) : List V → Hp → VK → Prop := fun xs H Q => ∃ p ys, xs = [.ref p] ∧ (SqL K H p ys ∨ SqT K H p ys) ∧ ∀ l, H l = none → Q (.ref l) (upd H l (.lst ys))
theorem call_list1A : CallR X (.type "list") (aList1 X.K) := call_list_of
def aTuple1 (K : PySem.W.Frag) : List V → Hp → VK → Prop := fun xs H Q => ∃ p ys, xs = [.ref p] ∧ ((SqL K H p ys ∧ ∀ l, H l = none → Q (.ref l) (upd H l (.tup ys))) ∨ (SqT K H p ys ∧ Q (.ref p) H))
theorem call_tuple1A : CallR X (.type "tuple") (aTuple1 X.K) := call_tuple_of
def aTru (K : PySem.W.Frag) (ta : TE) : TT := fun σ H Q => ta σ H fun x H' => ∃ k, TruV K x H' k ∧ Q k H'
theorem pt_tru {a : Expr} {ta : TE} (ha : PE X a ta) (he : ∀ whole, isTrue a X.env whole = (do let v ← whole; standAt a.pos; holding [v] (truthy v))) : PT X a (aTru X.K ta) := pt_truth ha he
def aIsN : R2 := fun x y H Q => y = .non ∧ Q (.bl (decide (x = .non))) H
theorem op_isNA : OpR X (compareOp .Is) aIsN := op_isN
def aNotN : R2 := fun x y H Q => y = .non ∧ Q (.bl (!decide (x = .non))) H
theorem op_notNA : OpR X (compareOp .IsNot) aNotN := op_notN
end
/-! ### one step of a reading -/
section
variable {K : PySem.W.Frag} {σ : L2.St} {H : Hp} {N B C : L2.St → Hp → Prop} {R : VK} {t u : TS} {c d : TT} {ta tb te tc : TE} {tr : TA} {Q : VK} {g : TG} {i j : Nat} {v x y : V} {r r' : R2}
theorem L_seq (h : t ⟨u ⟨N, R, B, C⟩, R, B, C⟩ σ H) : tSeq t u ⟨N, R, B, C⟩ σ H := h
theorem L_next (h : N σ H) : tNext ⟨N, R, B, C⟩ σ H := h
theorem L_brk (h : B σ H) : tBreak ⟨N, R, B, C⟩ σ H := h
theorem L_cont (h : C σ H) : tCont ⟨N, R, B, C⟩ σ H := h
theorem L_ret (h : te σ H R) : tRet te ⟨N, R, B, C⟩ σ H := h
theorem L_retN (h : R .non H) : tRetN ⟨N, R, B, C⟩ σ H := h
theorem L_drop (h : te σ H fun _ H1 => N σ H1) : tDrop te ⟨N, R, B, C⟩ σ H := h
theorem L_asg (h : te σ H fun x H1 => g x σ H1 N) : tAsg te g ⟨N, R, B, C⟩ σ H := h
theorem L_gname {Q : L2.St → Hp → Prop} (h : Q (σ.set i (some v)) H) : gName i v σ H Q := h
theorem L_aug {ti : TIp} (hx : σ[i]? = some (some x)) (h : te σ H fun y H1 => ti x y H1 fun z H2 => N (σ.set i (some z)) H2) : tAug i te ti ⟨N, R, B, C⟩ σ H := ⟨x, hx, h⟩
theorem L_ipI {f : Int → Int → Int} {a b : Int} (h : Q (.int (f a b)) H) : ipI f (.int a) (.int b) H Q := ⟨a, b, rfl, rfl, h⟩
theorem L_ifS (h : c σ H fun b H1 => if b = true then t ⟨N, R, B, C⟩ σ H1 else u ⟨N, R, B, C⟩ σ H1) : tIfS c t u ⟨N, R, B, C⟩ σ H := h
theorem L_par (h : tr σ H fun vs H1 => ∃ v w, vs = [v, w] ∧ N ((σ.set i (some v)).set j (some w)) H1) : tPar i j tr ⟨N, R, B, C⟩ σ H := h
theorem L_par3 {l : Nat} (h : tr σ H fun vs H1 => ∃ u v w, vs = [u, v, w] ∧ N (((σ.set i (some u)).set j (some v)).set l (some w)) H1) : tPar3 i j l tr ⟨N, R, B, C⟩ σ H := h
theorem L_vs2 {Q : V → V → Prop} (h : Q x y) : ∃ v w, [x, y] = [v, w] ∧ Q v w := ⟨x, y, rfl, h⟩
theorem L_vs3 {z : V} {Q : V → V → V → Prop} (h : Q x y z) : ∃ u v w, [x, y, z] = [u, v, w] ∧ Q u v w := ⟨x, y, z, rfl, h⟩
theorem L_var (h : σ[i]? = some (some v)) (q : Q v H) : tVar i σ H Q := ⟨v, h, q⟩
theorem L_c (q : Q v H) : tC v σ H Q := q
theorem L_op (h : ta σ H fun x H1 => tb σ H1 fun y H2 => r x y H2 Q) : tOp r ta tb σ H Q := h
theorem L_un {r : V → Hp → VK → Prop} (h : ta σ H fun x H1 => r x H1 Q) : tUn r ta σ H Q := h
theorem L_rU {g : Int → V} {i : Int} (q : Q (g i) H) : rU g (.int i) H Q := ⟨i, rfl, q⟩
theorem L_I0 {g : Int → Int → V} {i j : Int} (q : Q (g i j) H) : rI0 g (.int i) (.int j) H Q := ⟨i, j, rfl, rfl, q⟩
theorem L_I {C : Int → Int → Prop} {g : Int → Int → V} {i j : Int} (hc : C i j) (q : Q (g i j) H) : rI C g (.int i) (.int j) H Q := ⟨i, j, rfl, rfl, hc, q⟩
theorem L_addI {i j : Int} (q : Q (.int (i + j)) H) : aAdd K (.int i) (.int j) H Q := .inl ⟨i, j, rfl, rfl, q⟩
theorem L_addS {a b : Str} (hl : a.length + b.length ≤ sizeLine) (q : Q (.str (a ++ b)) H) : aAdd K (.str a) (.str b) H Q := .inr (.inl ⟨a, b, rfl, rfl, hl, q⟩)
theorem L_addL {a b : Addr} {xs ys : List V} (ha : H a = some (.lst xs)) (hb : H b = some (.lst ys)) (hl : xs.length + ys.length ≤ sizeLine) (q : ∀ p, H p = none → Q (.ref p) (upd H p (.lst (xs ++ ys)))) : aAdd K (.ref a) (.ref b) H Q := .inr (.inr (.inl ⟨a, b, xs, ys, rfl, rfl, ha, hb, hl, q⟩))
theorem L_mulI {i j : Int} (hc : CMulW i j) (q : Q (.int (i * j)) H) : aMul (.int i) (.int j) H Q := .inl ⟨i, j, rfl, rfl, hc, q⟩
theorem L_eqI {i j : Int} (q : Q (.bl (decide (i = j))) H) : aEq K (.int i) (.int j) H Q := .inl ⟨rfl, by rw [show decide (V.int i = V.int j) = decide (i = j) by simp]; exact q⟩
theorem L_eqS {i j : Str} (q : Q (.bl (decide (i = j))) H) : aEq K (.str i) (.str j) H Q := .inl ⟨rfl, by rw [show decide (V.str i = V.str j) = decide (i = j) by simp]; exact q⟩
theorem L_eqB {i j : Bool} (q : Q (.bl (decide (i = j))) H) : aEq K (.bl i) (.bl j) H Q := .inl ⟨rfl, by rw [show decide (V.bl i = V.bl j) = decide (i = j) by simp]; exact q⟩
theorem L_neI {i j : Int} (q : Q (.bl (!decide (i = j))) H) : aNe K (.int i) (.int j) H Q := .inl ⟨rfl, by rw [show decide (V.int i = V.int j) = decide (i = j) by simp]; exact q⟩
theorem L_neS {i j : Str} (q : Q (.bl (!decide (i = j))) H) : aNe K (.str i) (.str j) H Q := .inl ⟨rfl, by rw [show decide (V.str i = V.str j) = decide (i = j) by simp]; exact q⟩
theorem L_eqD {d e : PyData} (hx : Dp K H x d) (hy : Dp K H y e) (sd : SeqAt.shaped d = true) (se : SeqAt.shaped e = true) (q : Q (.bl (PyData.eqv d e)) H) : aEq K x y H Q := .inr ⟨d, e, hx, hy, sd, se, q⟩
theorem L_neD {d e : PyData} (hx : Dp K H x d) (hy : Dp K H y e) (sd : SeqAt.shaped d = true) (se : SeqAt.shaped e = true) (q : Q (.bl (!PyData.eqv d e)) H) : aNe K x y H Q := .inr ⟨d, e, hx, hy, sd, se, q⟩
theorem L_leI {i j : Int} (q : Q (.bl (decide (i ≤ j))) H) : aLe (.int i) (.int j) H Q := .inl ⟨i, j, rfl, rfl, q⟩
theorem L_leS {i j : Str} (q : Q (.bl (!decide (j.cps.toList < i.cps.toList))) H) : aLe (.str i) (.str j) H Q := .inr ⟨i, j, rfl, rfl, q⟩
theorem L_ltI {i j : Int} (q : Q (.bl (decide (i < j))) H) : aLt (.int i) (.int j) H Q := .inl ⟨i, j, rfl, rfl, q⟩
theorem L_isN (q : Q (.bl (decide (x = .non))) H) : aIsN x .non H Q := ⟨rfl, q⟩
theorem L_notN (q : Q (.bl (!decide (x = .non))) H) : aNotN x .non H Q := ⟨rfl, q⟩
theorem L_inC {a : Nat} {z : Str} (q : Q (.bl (decide (a ∈ z.cps.toList))) H) : aIn K (.str ⟨#[a]⟩) (.str z) H Q := .inl ⟨a, z, rfl, rfl, q⟩
theorem L_notInC {a : Nat} {z : Str} (q : Q (.bl (!decide (a ∈ z.cps.toList))) H) : aNotIn K (.str ⟨#[a]⟩) (.str z) H Q := .inl ⟨a, z, rfl, rfl, q⟩
theorem L_fld {f : Str} (h : ta σ H fun x H1 => ∃ a C dx fs v, x = .ref a ∧ H1 a = some (.ins C dx fs) ∧ Cls K C ∧ NoAttr K C f ∧ fs.lookup f = some v ∧ Q v H1) : tFld K ta f σ H Q := h
theorem L_fldv {a C dx : Addr} {fs : List (Str × V)} {f : Str} {Q : V → Prop} (h : H a = some (.ins C dx fs)) (cl : Cls K C) (n : NoAttr K C f) (l : fs.lookup f = some v) (q : Q v) :
    ∃ a' C dx fs v, V.ref a = V.ref a' ∧ H a' = some (.ins C dx fs) ∧ Cls K C ∧ NoAttr K C f ∧ fs.lookup f = some v ∧ Q v := ⟨a, C, dx, fs, v, rfl, h, cl, n, l, q⟩
theorem L_tTest {Q : Bool → Hp → Prop} (h : te σ H fun x H' => ∃ k, x = .bl k ∧ Q k H') : tTest te σ H Q := h
theorem L_tB {Q : Bool → Hp → Prop} (h : te σ H fun x H' => ∃ k, x = .bl k ∧ Q k H') : tB te σ H Q := h
theorem L_k {b : Bool} {Q : Bool → Prop} (q : Q b) : ∃ k, V.bl b = V.bl k ∧ Q k := ⟨b, rfl, q⟩
theorem L_tru {Q : Bool → Hp → Prop} (h : te σ H fun x H' => ∃ k, TruV K x H' k ∧ Q k H') : aTru K te σ H Q := h
theorem L_truB {b : Bool} {Q : Bool → Prop} (q : Q b) : ∃ k, TruV K (.bl b) H k ∧ Q k := ⟨b, rfl, q⟩
theorem L_truI {i : Int} {Q : Bool → Prop} (q : Q (i != 0)) : ∃ k, TruV K (.int i) H k ∧ Q k := ⟨_, rfl, q⟩
theorem L_and {Q : Bool → Hp → Prop} (h : c σ H fun b H1 => if b = true then d σ H1 Q else Q false H1) : tAnd c d σ H Q := h
theorem L_or {Q : Bool → Hp → Prop} (h : c σ H fun b H1 => if b = true then Q true H1 else d σ H1 Q) : tOr c d σ H Q := h
theorem L_not {Q : Bool → Hp → Prop} (h : c σ H fun b H1 => Q (!b) H1) : tNot c σ H Q := h
theorem L_andV (h : ta σ H fun x H1 => ∃ c, x = .bl c ∧ if c = true then tb σ H1 Q else Q (.bl false) H1) : tAndV ta tb σ H Q := h
theorem L_orV (h : ta σ H fun x H1 => ∃ c, x = .bl c ∧ if c = true then Q (.bl true) H1 else tb σ H1 Q) : tOrV ta tb σ H Q := h
theorem L_notV (h : ta σ H fun x H1 => ∃ c, x = .bl c ∧ Q (.bl (!c)) H1) : tNotV ta σ H Q := h
theorem L_ifE (h : c σ H fun b H1 => if b = true then ta σ H1 Q else tb σ H1 Q) : tIf c ta tb σ H Q := h
theorem L_chain (h : ta σ H fun x H1 => tb σ H1 fun y H2 => r x y H2 fun z H3 => ∃ k, z = .bl k ∧ (if k = true then tc σ H3 fun w' H4 => r' y w' H4 Q else Q (.bl false) H3)) : tChain r r' ta tb tc σ H Q := h
theorem L_T {A B : Prop} (a : A) : if true = true then A else B := by rw [if_pos rfl]; exact a
theorem L_F {A B : Prop} (b : B) : if false = true then A else B := by rw [if_neg Bool.false_ne_true]; exact b
theorem L_dT {p : Prop} [Decidable p] {A B : Prop} (h : p) (a : A) : if decide p = true then A else B := by rw [decide_eq_true h]; exact L_T a
theorem L_dF {p : Prop} [Decidable p] {A B : Prop} (h : ¬ p) (b : B) : if decide p = true then A else B := by rw [decide_eq_false h]; exact L_F b
theorem L_d {p : Prop} [Decidable p] {A B : Prop} (a : p → A) (b : ¬ p → B) : if decide p = true then A else B := by
  by_cases h : p
  · exact L_dT h (a h)
  · exact L_dF h (b h)
theorem L_nd {p : Prop} [Decidable p] {A B : Prop} (a : ¬ p → A) (b : p → B) : if (!decide p) = true then A else B := by
  by_cases h : p
  · rw [decide_eq_true h]; exact L_F (b h)
  · rw [decide_eq_false h]; exact L_T (a h)
theorem L_ndT {p : Prop} [Decidable p] {A B : Prop} (h : ¬ p) (a : A) : if (!decide p) = true then A else B := by rw [decide_eq_false h]; exact L_T a
theorem L_ndF {p : Prop} [Decidable p] {A B : Prop} (h : p) (b : B) : if (!decide p) = true then A else B := by rw [decide_eq_true h]; exact L_F b
theorem L_b {k : Bool} {A B : Prop} (a : k = true → A) (b : k = false → B) : if k = true then A else B := by
  cases k with
  | true => exact L_T (a rfl)
  | false => exact L_F (b rfl)
theorem L_nT {A B : Prop} (b : B) : if (!true) = true then A else B := L_F b
theorem L_nF {A B : Prop} (a : A) : if (!false) = true then A else B := L_T a
theorem L_nil {Q : List V → Hp → Prop} (q : Q [] H) : tNil σ H Q := q
theorem L_cons {Q : List V → Hp → Prop} (h : ta σ H fun x H1 => tr σ H1 fun xs H2 => Q (x :: xs) H2) : tCons ta tr σ H Q := h
theorem L_tup (h : tr σ H fun xs H1 => xs.length ≤ sizeLine ∧ ∀ p, H1 p = none → Q (.ref p) (upd H1 p (.tup xs))) : tTup tr σ H Q := h
theorem L_lst (h : tr σ H fun xs H1 => xs.length ≤ sizeLine ∧ ∀ p, H1 p = none → Q (.ref p) (upd H1 p (.lst xs))) : tLst tr σ H Q := h
theorem L_new {n : Nat} {R : Prop} (hl : n ≤ sizeLine) (q : R) : n ≤ sizeLine ∧ R := ⟨hl, q⟩
theorem L_call {sp : Sp} {E : XK} (h : tr σ H fun vs H1 => sp vs H1 Q E) : tCall sp [] E tr σ H Q := by
  unfold tCall
  simp only [List.append_nil]
  exact h
theorem L_cb {r : List V → Hp → VK → Prop} (h : tr σ H fun vs H1 => r vs H1 Q) : tCB r tr σ H Q := h
theorem L_lenL {a : Addr} {xs : List V} (h : SqL K H a xs) (q : Q (.int xs.length) H) : aLen K [.ref a] H Q := .inl ⟨a, xs, rfl, .inl h, q⟩
theorem L_lenT {a : Addr} {xs : List V} (h : SqT K H a xs) (q : Q (.int xs.length) H) : aLen K [.ref a] H Q := .inl ⟨a, xs, rfl, .inr h, q⟩
theorem L_lenS {z : Str} (h : z.length ≤ sizeLine) (q : Q (.int z.length) H) : aLen K [.str z] H Q := .inr (.inl ⟨z, rfl, h, q⟩)
theorem L_abs {i : Int} (q : Q (.int (if i < 0 then -i else i)) H) : aAbs [.int i] H Q := ⟨i, rfl, q⟩
theorem L_max2 {i j : Int} (q : Q (.int (max i j)) H) : aMax2 [.int i, .int j] H Q := ⟨i, j, rfl, by rw [show (if j > i then j else i) = max i j by omega]; exact q⟩
theorem L_min2 {i j : Int} (q : Q (.int (min i j)) H) : aMin2 [.int i, .int j] H Q := ⟨i, j, rfl, by rw [show (if j < i then j else i) = min i j by omega]; exact q⟩
theorem L_int1 {i : Int} (q : Q (.int i) H) : aInt1 [.int i] H Q := .inl ⟨i, rfl, q⟩
theorem L_int1B {k : Bool} (q : Q (.int (if k then 1 else 0)) H) : aInt1 [.bl k] H Q := .inr ⟨k, rfl, q⟩
theorem L_isi {a n : String} {b : Bool} (hx : TyX K H x (.type a)) (hk : kitB a n = some b) (q : Q (.bl b) H) : rIsi K [x, .ty n] H Q := ⟨x, .ty n, .type a, .type n, b, rfl, .ty n, hx, kit_ty hk, q⟩
theorem L_ixL {p : Addr} {xs : List V} {i : Int} (h : SqL K H p xs) (ha : atI xs i = some v) (q : Q v H) : rIx K (.ref p) (.int i) H Q := .inl ⟨p, xs, i, v, rfl, rfl, h, ha, q⟩
theorem L_ixT {p : Addr} {xs : List V} {i : Int} (h : SqT K H p xs) (ha : atI xs i = some v) (q : Q v H) : rIx K (.ref p) (.int i) H Q := .inr (.inl ⟨p, xs, i, v, rfl, rfl, h, ha, q⟩)
theorem L_ixS {z : Str} {i : Int} {a : Nat} (h : z.length ≤ sizeLine) (ha : atI z.cps.toList i = some a) (q : Q (.str ⟨#[a]⟩) H) : rIx K (.str z) (.int i) H Q := .inr (.inr ⟨z, i, a, rfl, rfl, h, ha, q⟩)
theorem L_bm {T : String} {r : V → List V → Hp → VK → Prop} (h : te σ H fun x H1 => tyV K T x H1 ∧ tr σ H1 fun xs H2 => r x xs H2 Q) : tBM K T r te tr σ H Q := h
theorem L_tyL {a : Addr} {xs : List V} {R : Prop} (h : SqL K H a xs) (q : R) : tyV K "list" (.ref a) H ∧ R := ⟨.inl ⟨rfl, xs, h⟩, q⟩
theorem L_app {a : Addr} {xs : List V} (h : H a = some (.lst xs)) (hl : xs.length < sizeLine) (q : Q .non (upd H a (.lst (xs ++ [v])))) : rAppend (.ref a) [v] H Q := ⟨a, xs, v, rfl, rfl, h, hl, q⟩
theorem L_sum {a : Addr} {ns : List Int} (h : SqL K H a (ns.map V.int)) (q : Q (.int ns.sum) H) : rSum K [.ref a] H Q := ⟨a, ns, rfl, h, q⟩
theorem L_while (W : Nat → L2.St → Hp → Prop) (h0 : ∃ m, W m σ H) (hs : ∀ m σ H, W m σ H → c σ H fun b H1 => if b = true then ∃ M : L2.St → Hp → Prop, (∀ σ' H', M σ' H' → ∃ m', m' < m ∧ W m' σ' H') ∧ t ⟨M, R, N, M⟩ σ H1 else N σ H1) : tWhile c t ⟨N, R, B, C⟩ σ H := ⟨W, h0, hs⟩
theorem L_N {W : Nat → L2.St → Hp → Prop} {m : Nat} (h : t ⟨fun σ' H' => ∃ m', m' < m ∧ W m' σ' H', R, N, fun σ' H' => ∃ m', m' < m ∧ W m' σ' H'⟩ σ H) :
    ∃ M : L2.St → Hp → Prop, (∀ σ' H', M σ' H' → ∃ m', m' < m ∧ W m' σ' H') ∧ t ⟨M, R, N, M⟩ σ H := ⟨_, fun _ _ h => h, h⟩
theorem L_cut {Mid : L2.St → Hp → Prop} (h : t ⟨Mid, R, B, C⟩ σ H) (k : ∀ σ' H', Mid σ' H' → u ⟨N, R, B, C⟩ σ' H') : Evl.tCut t u ⟨N, R, B, C⟩ σ H := ⟨Mid, h, k⟩
theorem L_for {wi : TI} (h : wi σ H fun J H1 => ∃ W : Nat → Nat → L2.St → Hp → Prop, (∃ m, W 0 m σ H1) ∧ ∀ i m σ H, W i m σ H →
      (J.stop i H ∧ N σ H) ∨ (J.go i H ∧ ∃ M : L2.St → Hp → Prop, (∀ σ' H', M σ' H' → ∃ m', m' < m ∧ W (i + 1) m' σ' H') ∧ ∀ x H', J.yld i H x H' → g x σ H' fun σ2 H2 => t ⟨M, R, N, M⟩ σ2 H2)) : tFor wi g t ⟨N, R, B, C⟩ σ H := h
theorem L_iRng1 {R : It → Hp → Prop} (h : tr σ H fun vs H1 => ∃ j : Int, vs = [.int j] ∧ -(2 ^ 62) ≤ j ∧ j < 2 ^ 62 ∧ R (Itr 0 j.toNat) H1) : iRng1 tr σ H R := h
theorem L_iRng2 {R : It → Hp → Prop} (h : tr σ H fun vs H1 => ∃ i j : Int, vs = [.int i, .int j] ∧ (-(2 ^ 62) ≤ i ∧ i < 2 ^ 62 ∧ -(2 ^ 62) ≤ j ∧ j < 2 ^ 62) ∧ R (Itr i (j - i).toNat) H1) : iRng2 tr σ H R := h
theorem L_iList {R : It → Hp → Prop} (h : te σ H fun x H1 => ∃ a, x = .ref a ∧ (∃ xs, SqL K H1 a xs) ∧ R (Itl K a) H1) : iList K te σ H R := h
theorem L_iTup {R : It → Hp → Prop} (h : te σ H fun x H1 => ∃ a, x = .ref a ∧ (∃ xs, SqT K H1 a xs) ∧ R (Itt K a) H1) : iTup K te σ H R := h
theorem L_r1 {n : Int} {R : Int → Prop} (h1 : -(2 ^ 62) ≤ n) (h2 : n < 2 ^ 62) (q : R n) : ∃ j : Int, [V.int n] = [V.int j] ∧ -(2 ^ 62) ≤ j ∧ j < 2 ^ 62 ∧ R j := ⟨n, rfl, h1, h2, q⟩
theorem L_r2 {a n : Int} {R : Int → Int → Prop} (h : -(2 ^ 62) ≤ a ∧ a < 2 ^ 62 ∧ -(2 ^ 62) ≤ n ∧ n < 2 ^ 62) (q : R a n) : ∃ i j : Int, [V.int a, V.int n] = [V.int i, V.int j] ∧ (-(2 ^ 62) ≤ i ∧ i < 2 ^ 62 ∧ -(2 ^ 62) ≤ j ∧ j < 2 ^ 62) ∧ R i j := ⟨a, n, rfl, h, q⟩
theorem L_rl {a : Addr} {xs : List V} {R : Addr → Prop} (h : SqL K H a xs) (q : R a) : ∃ b, V.ref a = V.ref b ∧ (∃ xs, SqL K H b xs) ∧ R b := ⟨a, rfl, ⟨xs, h⟩, q⟩
theorem L_rt {a : Addr} {xs : List V} {R : Addr → Prop} (h : SqT K H a xs) (q : R a) : ∃ b, V.ref a = V.ref b ∧ (∃ xs, SqT K H b xs) ∧ R b := ⟨a, rfl, ⟨xs, h⟩, q⟩
end
theorem sz_dec {n : Nat} (h : n ≤ 1000000) : n ≤ sizeLine := Nat.le_trans h (by decide)
theorem sz_lt {n : Nat} (h : n < 1000000) : n < sizeLine := Nat.lt_of_lt_of_le h (by decide)
/-! ### sizes of ints -/
/-- less than n bits -/
def Bd (n : Nat) (i : Int) : Prop := i.natAbs < 2 ^ n
theorem Bd.mono {n m : Nat} {i : Int} (h : Bd n i) (hm : n ≤ m) : Bd m i := Nat.lt_of_lt_of_le h (Nat.pow_le_pow_right (by decide) hm)
theorem Bd.mul {n m : Nat} {i j : Int} (h : Bd n i) (k : Bd m j) : Bd (n + m) (i * j) := wide_lt h k
theorem Bd.add {n m : Nat} {i j : Int} (h : Bd n i) (k : Bd m j) : Bd (max n m + 1) (i + j) := by
  have a := h.mono (Nat.le_max_left n m)
  have b := k.mono (Nat.le_max_right n m)
  unfold Bd at *
  rw [Nat.pow_succ]
  have := Int.natAbs_add_le i j
  omega
theorem Bd.neg {n : Nat} {i : Int} (h : Bd n i) : Bd n (-i) := by unfold Bd at *; rw [Int.natAbs_neg]; exact h
theorem Bd.sub {n m : Nat} {i j : Int} (h : Bd n i) (k : Bd m j) : Bd (max n m + 1) (i - j) := by
  rw [Int.sub_eq_add_neg]; exact h.add k.neg
theorem Bd.cmul {n m : Nat} {i j : Int} (h : Bd n i) (k : Bd m j) (hz : n + m + 2 ≤ 1000000 := by decide) : CMulW i j :=
  wide_mul (h.mono (Nat.le_succ n)) (k.mono (Nat.le_succ m)) (Nat.succ_pos _) (Nat.succ_pos _) (by omega)
theorem Bd.cdiv {n : Nat} {i j : Int} (k : Bd n j) (h : 0 < j) (hz : n + 1 ≤ 9000 := by decide) : CDivW i j := wide_div h (k.mono (Nat.le_succ n)) (Nat.succ_pos _) hz
theorem bd_lit {i : Int} (h : -4294967296 < i ∧ i < 4294967296) : Bd 32 i := by
  unfold Bd
  have : (2 : Nat) ^ 32 = 4294967296 := by decide
  omega
theorem bd_64 {i : Int} (h : -18446744073709551616 < i ∧ i < 18446744073709551616) : Bd 64 i := by
  unfold Bd
  have : (2 : Nat) ^ 64 = 18446744073709551616 := by decide
  omega
/-- an item of the script, or what stands in its place -/
def cellAt (ns : List Int) (k d : Int) : Int := if k < (ns.length : Int) then ns.getD k.toNat 0 else d
theorem cellAt_in {ns : List Int} {k d : Int} (h0 : 0 ≤ k) (h : k < (ns.length : Int)) : atI (ns.map V.int) k = some (V.int (cellAt ns k d)) := by
  obtain ⟨j, rfl⟩ : ∃ j : Nat, k = (j : Int) := ⟨k.toNat, by omega⟩
  have hl : j < ns.length := by omega
  unfold cellAt
  rw [if_pos h]
  refine atI_nat ?_
  rw [List.getElem?_map, List.getElem?_eq_getElem hl]
  simp [List.getD, List.getElem?_eq_getElem hl]
theorem cellAt_out {ns : List Int} {k d : Int} (h : ¬ k < (ns.length : Int)) : cellAt ns k d = d := if_neg h
theorem cellAt_mem {ns : List Int} {k d : Int} (h0 : 0 ≤ k) : cellAt ns k d ∈ ns ∨ cellAt ns k d = d := by
  unfold cellAt
  split
  · rename_i h
    have hl : k.toNat < ns.length := by omega
    left
    simp [List.getD, List.getElem?_eq_getElem hl]
  · exact .inr rfl
theorem _root_.L2.Same.seqT {K : PySem.W.Frag} {H H' : Hp} {a : Addr} {xs : List V} (e : Same H H') (h : SqT K H a xs) : SqT K H' a xs := by
  rcases h with (h | ⟨o, h⟩) | h
  · exact .inl (.inl (e _ _ h))
  · exact .inl (.inr ⟨o, e _ _ h⟩)
  · exact .inr h
/-! ### what is walked: more -/
section
variable {K : PySem.W.Frag} {σ : L2.St} {H : Hp} {te : TE} {tr : TA} {Q : VK} {g : TG} {tt : TT}
theorem L_yes {Q : Bool → Hp → Prop} (q : Q true H) : tYes σ H Q := q
theorem L_iZip {R : It → Hp → Prop} (h : tr σ H fun vs H1 => ∃ a b xs ys, vs = [.ref a, .ref b] ∧ SqL K H1 a xs ∧ SqL K H1 b ys ∧ R (Itz K a b) H1) : iZip K tr σ H R := h
theorem L_iEnum {R : It → Hp → Prop} (h : tr σ H fun vs H1 => ∃ a xs, vs = [.ref a] ∧ SqL K H1 a xs ∧ R (Ite K a) H1) : iEnum K tr σ H R := h
theorem L_iStr {R : It → Hp → Prop} (h : te σ H fun v H1 => ∃ x, v = .str x ∧ R (Its x) H1) : iStr te σ H R := h
theorem L_iRng3 {R : It → Hp → Prop} (h : tr σ H fun vs H1 => ∃ (i j c : Int) (n : Nat), vs = [.int i, .int j, .int c] ∧ RgC i j c n ∧ R (Itc i c n) H1) : iRng3 tr σ H R := h
theorem L_rz {a b : Addr} {xs ys : List V} {R : Addr → Addr → Prop} (h1 : SqL K H a xs) (h2 : SqL K H b ys) (q : R a b) : ∃ a' b' xs ys, [V.ref a, V.ref b] = [.ref a', .ref b'] ∧ SqL K H a' xs ∧ SqL K H b' ys ∧ R a' b' := ⟨a, b, xs, ys, rfl, h1, h2, q⟩
theorem L_re {a : Addr} {xs : List V} {R : Addr → Prop} (h1 : SqL K H a xs) (q : R a) : ∃ a' xs, [V.ref a] = [.ref a'] ∧ SqL K H a' xs ∧ R a' := ⟨a, xs, rfl, h1, q⟩
theorem L_rs {z : Str} {R : Str → Prop} (q : R z) : ∃ x, V.str z = .str x ∧ R x := ⟨z, rfl, q⟩
theorem L_r3 {i j c : Int} {n : Nat} {R : Int → Int → Nat → Prop} (h : RgC i j c n) (q : R i c n) : ∃ (i' j' c' : Int) (n : Nat), [V.int i, V.int j, V.int c] = [.int i', .int j', .int c'] ∧ RgC i' j' c' n ∧ R i' c' n := ⟨i, j, c, n, rfl, h, q⟩
theorem L_lc {wi : TI} {vs : List Nat} (h : wi σ H fun J H1 => ∀ D, H1 D = none → ∃ W : Nat → Nat → Hp → Prop, (∃ m, W 0 m (upd H1 D (.lst []))) ∧ ∀ i m H, W i m H →
  (J.stop i H ∧ Q (.ref D) H) ∨ (J.go i H ∧ ∃ Nx : Hp → Prop, (∀ H', Nx H' → ∃ m', m' < m ∧ W (i + 1) m' H') ∧ ∀ x H', J.yld i H x H' → g x (wipe σ vs) H' fun σ2 H2 => wipe σ2 vs = wipe σ vs ∧ tt σ2 H2 fun b H3 =>
    if b = true then te σ2 H3 fun y H4 => ∃ acc, H4 D = some (.lst acc) ∧ acc.length < sizeLine ∧ Nx (upd H4 D (.lst (acc ++ [y]))) else Nx H3)) : tLc wi g tt te vs σ H Q := h
theorem fm_succ (f : Nat → Option V) (i : Nat) : (List.range (i + 1)).filterMap f = (List.range i).filterMap f ++ (match f i with | some y => [y] | none => []) := by
  rw [List.range_succ, List.filterMap_append]
  cases h : f i <;> simp [h]
theorem fm_len (f : Nat → Option V) (i : Nat) : ((List.range i).filterMap f).length ≤ i := by
  have := List.length_filterMap_le f (List.range i)
  simpa using this
/-- a comprehension whose things are told one by one: f i is what turn i gives, none where its test is false -/
theorem lc_fm {J : It} {n : Nat} {G : Hp → Prop} {Y : Nat → Hp → V → Hp → Prop} (w : L2.Walk J n G Y) {vs : List Nat} {Qd : Addr → Hp → Prop} (f : Nat → Option V) (hn : n ≤ 1000000) (hG : ∀ H', Same H H' → G H')
    (hs : ∀ i x H2 H' (R : V → Hp → Prop) (R' : Hp → Prop), i < n → Same H H2 → Y i H2 x H' → (∀ y H4, f i = some y → Same H2 H4 → R y H4) → (∀ H3, f i = none → Same H2 H3 → R' H3) →
      g x (wipe σ vs) H' fun σ2 H2 => wipe σ2 vs = wipe σ vs ∧ tt σ2 H2 fun b H3 => if b = true then te σ2 H3 R else R' H3)
    (q : ∀ p H', H p = none → Same H H' → H' p = some (.lst ((List.range n).filterMap f)) → Qd p H') :
    ∀ D, H D = none → ∃ W : Nat → Nat → Hp → Prop, (∃ m, W 0 m (upd H D (.lst []))) ∧ ∀ i m H, W i m H →
      (J.stop i H ∧ Qd D H) ∨ (J.go i H ∧ ∃ Nx : Hp → Prop, (∀ H', Nx H' → ∃ m', m' < m ∧ W (i + 1) m' H') ∧ ∀ x H', J.yld i H x H' → g x (wipe σ vs) H' fun σ2 H2 => wipe σ2 vs = wipe σ vs ∧ tt σ2 H2 fun b H3 =>
        if b = true then te σ2 H3 fun y H4 => ∃ acc, H4 D = some (.lst acc) ∧ acc.length < sizeLine ∧ Nx (upd H4 D (.lst (acc ++ [y]))) else Nx H3) := by
  intro D hD
  refine lc_it w (fun i H2 => Same H H2 ∧ H2 D = some (.lst ((List.range i).filterMap f))) ⟨same_new hD, upd_same⟩ (fun i H2 _ p => hG H2 p.1) ?_ (fun H2 p => q D H2 hD p.1 p.2)
  intro i x H2 H' hi ⟨p1, p2⟩ y
  refine hs i x H2 H' _ _ hi p1 y (fun y H4 e s => ?_) (fun H3 e s => ?_)
  · refine ⟨_, s _ _ p2, sz_lt (by have := fm_len f i; omega), ?_, ?_⟩
    · intro b o hb
      rw [upd_ne (ne_of_none hb hD)]
      exact s _ _ (p1 _ _ hb)
    · rw [fm_succ, e]; exact upd_same
  · refine ⟨p1.trans s, ?_⟩
    rw [fm_succ, e, List.append_nil]
    exact s _ _ p2
theorem fm_map {α : Type} (f : Nat → α) (h : α → V) (n : Nat) : (List.range n).filterMap (fun i => some (h (f i))) = ((List.range n).map f).map h := by
  rw [List.map_map]
  induction n with
  | zero => rfl
  | succ n ih => rw [fm_succ (fun i => some (h (f i))), ih, List.range_succ, List.map_append]; rfl
theorem rgC_up {i j c : Int} (hc : 0 < c) (hc2 : c < 1000000) (hi : -1000000000 ≤ i ∧ i ≤ 1000000000) (hj : -1000000000 ≤ j ∧ j ≤ 1000000000) : RgC i j c (if i < j then ((j - i - 1) / c + 1).toNat else 0) := by
  have e : Builtin.Range.rangeSize i j c = ((if i < j then ((j - i - 1) / c + 1).toNat else 0 : Nat) : Int) := by
    unfold Builtin.Range.rangeSize
    rw [if_pos (by omega)]
    split
    · have : 0 ≤ (j - i - 1) / c := Int.ediv_nonneg (by omega) (by omega)
      omega
    · rfl
  refine ⟨by omega, by omega, ?_, e⟩
  unfold Builtin.Range.small
  rw [e]
  have hz : ((if i < j then ((j - i - 1) / c + 1).toNat else 0 : Nat) : Int) * c ≤ 4000000000 ∧ ((if i < j then ((j - i - 1) / c + 1).toNat else 0 : Nat) : Int) ≤ 4000000000 ∧ 0 ≤ ((if i < j then ((j - i - 1) / c + 1).toNat else 0 : Nat) : Int) := by
    split
    · have h0 : 0 ≤ (j - i - 1) / c := Int.ediv_nonneg (by omega) (by omega)
      have h1 : (j - i - 1) / c * c ≤ j - i - 1 := Int.ediv_mul_le _ (by omega)
      have h2 : (j - i - 1) / c ≤ j - i - 1 := Int.ediv_le_self _ (by omega)
      have h3 : (((j - i - 1) / c + 1).toNat : Int) = (j - i - 1) / c + 1 := by omega
      rw [h3, Int.add_mul]
      omega
    · simp
  generalize ((if i < j then ((j - i - 1) / c + 1).toNat else 0 : Nat) : Int) = n at *
  simp only [Builtin.Range.rangeFitsLong, Bool.and_eq_true, Bool.or_eq_true, decide_eq_true_eq, beq_iff_eq]
  refine ⟨by omega, .inr ?_⟩
  rw [if_pos (by omega), Bool.and_eq_true, decide_eq_true_eq, decide_eq_true_eq]
  omega
/-- what making an instance asks -/
def MakeP (C : Addr) (sp : Sp) (E : XK) (vs : List V) (H : Hp) (Q : VK) : Prop := ∀ x dx, H x = none → H dx = none → dx ≠ x → sp (.ref x :: vs) (upd (upd H dx (.own x)) x (.ins C dx [])) (fun v H2 => v = .non ∧ Q (.ref x) H2) E
theorem L_make {C : Addr} {sp : Sp} {E : XK} (h : tr σ H fun vs H1 => MakeP C sp E vs H1 Q) : tMake C sp [] E tr σ H Q := by
  unfold tMake
  simp only [List.append_nil]
  exact h
/-- a new instance: all that stood stands -/
def NewI (H : Hp) (C : Addr) (fs : List (Str × V)) (Q : VK) : Prop := ∀ p H' dx, H p = none → Same H H' → H' p = some (.ins C dx fs) → Q (.ref p) H'
theorem L_gTup {n : Nat} {t : TGs} {a : Addr} {xs : List V} {Q : L2.St → Hp → Prop} (h : SqT K H a xs) (hn : xs.length = n) (q : t xs σ H Q) : gTup K n t (.ref a) σ H Q := ⟨a, xs, rfl, h, hn, q⟩
theorem L_gLst {n : Nat} {t : TGs} {a : Addr} {xs : List V} {Q : L2.St → Hp → Prop} (h : SqL K H a xs) (hn : xs.length = n) (q : t xs σ H Q) : gLst K n t (.ref a) σ H Q := ⟨a, xs, rfl, h, hn, q⟩
theorem L_gCons {v : V} {r : List V} {t : TG} {u : TGs} {Q : L2.St → Hp → Prop} (q : t v σ H fun σ' H' => u r σ' H' Q) : gCons t u (v :: r) σ H Q := ⟨v, r, rfl, q⟩
theorem L_gNil {Q : L2.St → Hp → Prop} (q : Q σ H) : gNil [] σ H Q := ⟨rfl, q⟩
theorem L_sub {to ti : TE} {t : TSet} {v : V} {Q : L2.St → Hp → Prop} (h : to σ H fun o H1 => ti σ H1 fun i H2 => t o i v H2 fun H3 => Q σ H3) : gSub to ti t v σ H Q := h
theorem L_setL {p : Addr} {xs : List V} {k : Int} {j : Nat} {v : V} {Q : Hp → Prop} (h : H p = some (.lst xs)) (hj : ixN xs.length k = some j) (q : Q (upd H p (.lst (xs.set j v)))) : rSetL (.ref p) (.int k) v H Q := ⟨p, xs, k, j, rfl, rfl, h, hj, q⟩
theorem ixN_of {n : Nat} {k : Int} (h0 : 0 ≤ k) (h : k < n) : ixN n k = some k.toNat := by
  unfold ixN
  rw [if_pos h0, if_pos h]
theorem L_sFld {f : Str} {ta tv : TE} {N B C' : L2.St → Hp → Prop} {R : VK} (h : tv σ H fun y H1 => ta σ H1 fun x H2 => ∃ a C dx fs, x = .ref a ∧ H2 a = some (.ins C dx fs) ∧ Cls K C ∧ NoAttr K C f ∧ fs.length < 1000 ∧ N σ (upd H2 a (.ins C dx (putF f y fs)))) : sFld K ta tv f ⟨N, R, B, C'⟩ σ H := h
theorem L_sFldv {a C dx : Addr} {fs : List (Str × V)} {f : Str} {Q : Addr → Addr → Addr → List (Str × V) → Prop} (h : H a = some (.ins C dx fs)) (cl : Cls K C) (n : NoAttr K C f) (l : fs.length < 1000) (q : Q a C dx fs) :
    ∃ a' C dx fs, V.ref a = V.ref a' ∧ H a' = some (.ins C dx fs) ∧ Cls K C ∧ NoAttr K C f ∧ fs.length < 1000 ∧ Q a' C dx fs := ⟨a, C, dx, fs, rfl, h, cl, n, l, q⟩
theorem L_repL {a : Addr} {xs : List V} {k : Int} (h : H a = some (.lst xs)) (h1 : -(2 ^ 63) ≤ k) (h2 : k < 2 ^ 63) (h3 : xs.length * k.toNat ≤ sizeLine) (q : ∀ p, H p = none → Q (.ref p) (upd H p (.lst (List.replicate k.toNat xs).flatten))) : aMul (.ref a) (.int k) H Q := .inr ⟨a, k, xs, rfl, rfl, h, h1, h2, h3, q⟩
theorem atI_int {xs : List V} {k : Int} {v : V} (h0 : 0 ≤ k) (h : xs[k.toNat]? = some v) : atI xs k = some v := by
  obtain ⟨j, rfl⟩ : ∃ j : Nat, k = (j : Int) := ⟨k.toNat, by omega⟩
  exact atI_nat h
theorem atI_ints {xs : List Int} {k : Int} (h0 : 0 ≤ k) (h : k < xs.length) : atI (xs.map V.int) k = some (.int (xs.getD k.toNat 0)) := by
  refine atI_int h0 ?_
  have hl : k.toNat < xs.length := by omega
  rw [List.getElem?_map, List.getElem?_eq_getElem hl]
  simp [List.getD, List.getElem?_eq_getElem hl]
theorem L_nw {xs : List V} {R : Prop} (q : R) (hl : xs.length ≤ 1000000 := by simp) : xs.length ≤ sizeLine ∧ R := ⟨sz_dec hl, q⟩
end
theorem fm_succ' {α : Type} (f : Nat → Option α) (i : Nat) : (List.range (i + 1)).filterMap f = (List.range i).filterMap f ++ (match f i with | some y => [y] | none => []) := by
  rw [List.range_succ, List.filterMap_append]
  cases h : f i <;> simp [h]
theorem fm_len' {α : Type} (f : Nat → Option α) (i : Nat) : ((List.range i).filterMap f).length ≤ i := by
  have := List.length_filterMap_le f (List.range i)
  simpa using this
/-! ### data as trees -/
mutual
theorem Dp_same {K : PySem.W.Frag} {H H' : Hp} (e : Same H H') : ∀ (d : PyData) {v : V}, Dp K H v d → Dp K H' v d
  | .none, _, h => by cases h; exact .non
  | .bool b, _, h => by cases h; exact .bl b
  | .int i, _, h => by cases h; exact .int i
  | .str x, _, h => by cases h; exact .str x
  | .list ds, _, h => by cases h with | lst hs ha => exact .lst (e.seq hs) (DpAll_same e ds ha)
  | .tuple ds, _, h => by cases h with | tup hs ha => exact .tup (e.seqT hs) (DpAll_same e ds ha)
  | .dict _, _, h => by cases h
theorem DpAll_same {K : PySem.W.Frag} {H H' : Hp} (e : Same H H') : ∀ (ds : List PyData) {vs : List V}, DpAll K H vs ds → DpAll K H' vs ds
  | [], _, h => by cases h; exact .nil
  | d :: ds, _, h => by cases h with | cons h1 h2 => exact .cons (Dp_same e d h1) (DpAll_same e ds h2)
end
section
variable {K : PySem.W.Frag} {H H' : Hp} {v : V} {vs : List V} {d : PyData} {ds : List PyData}
theorem _root_.L2.Dp.same (h : Dp K H v d) (e : Same H H') : Dp K H' v d := Dp_same e d h
theorem _root_.L2.DpAll.same (h : DpAll K H vs ds) (e : Same H H') : DpAll K H' vs ds := DpAll_same e ds h
theorem _root_.L2.DpAll.len : ∀ {ds : List PyData} {vs : List V}, DpAll K H vs ds → vs.length = ds.length
  | [], _, h => by cases h; rfl
  | d :: ds, _, h => by cases h with | cons h1 h2 => rw [List.length_cons, List.length_cons, h2.len]
theorem _root_.L2.DpAll.at : ∀ {ds : List PyData} {vs : List V} {i : Nat}, DpAll K H vs ds → ds[i]? = some d → ∃ v, vs[i]? = some v ∧ Dp K H v d
  | [], _, i, h, e => by simp at e
  | c :: ds, _, 0, h, e => by
    cases h with
    | cons h1 h2 =>
      rename_i v vs
      have : c = d := by simpa using e
      subst this
      exact ⟨v, by simp, h1⟩
  | c :: ds, _, i + 1, h, e => by
    cases h with
    | cons h1 h2 =>
      obtain ⟨v, q1, q2⟩ := h2.at (i := i) (by simpa using e)
      exact ⟨v, by simpa using q1, q2⟩
theorem _root_.L2.DpAll.of : ∀ {ds : List PyData} {vs : List V} {i : Nat}, DpAll K H vs ds → vs[i]? = some v → ∃ d, ds[i]? = some d ∧ Dp K H v d
  | [], _, i, h, e => by cases h; simp at e
  | c :: ds, _, 0, h, e => by
    cases h with
    | cons h1 h2 =>
      rename_i w vs
      have : w = v := by simpa using e
      subst this
      exact ⟨c, by simp, h1⟩
  | c :: ds, _, i + 1, h, e => by
    cases h with
    | cons h1 h2 =>
      obtain ⟨d, q1, q2⟩ := h2.of (i := i) (by simpa using e)
      exact ⟨d, by simpa using q1, q2⟩
theorem _root_.L2.DpAll.app : ∀ {ds es : List PyData} {vs us : List V}, DpAll K H vs ds → DpAll K H us es → DpAll K H (vs ++ us) (ds ++ es)
  | [], _, _, _, h, g => by cases h; exact g
  | d :: ds, _, _, _, h, g => by cases h with | cons h1 h2 => exact .cons h1 (h2.app g)
theorem _root_.L2.DpAll.snoc (h : DpAll K H vs ds) (g : Dp K H v d) : DpAll K H (vs ++ [v]) (ds ++ [d]) := h.app (.cons g .nil)
theorem dp_ints : ∀ (ns : List Int), DpAll K H (ns.map V.int) (ns.map PyData.int)
  | [] => .nil
  | n :: ns => .cons (.int n) (dp_ints ns)
theorem dp_strs : ∀ (ns : List Str), DpAll K H (ns.map V.str) (ns.map PyData.str)
  | [] => .nil
  | n :: ns => .cons (.str n) (dp_strs ns)
theorem of_ints : ∀ {ns : List Int} {vs : List V}, DpAll K H vs (ns.map PyData.int) → vs = ns.map V.int
  | [], _, h => by cases h; rfl
  | n :: ns, _, h => by
    cases h with
    | cons h1 h2 => cases h1; rw [of_ints h2]; rfl
theorem of_strs : ∀ {ns : List Str} {vs : List V}, DpAll K H vs (ns.map PyData.str) → vs = ns.map V.str
  | [], _, h => by cases h; rfl
  | n :: ns, _, h => by
    cases h with
    | cons h1 h2 => cases h1; rw [of_strs h2]; rfl
theorem of_tup (h : Dp K H v (.tuple ds)) : ∃ a xs, v = .ref a ∧ SqT K H a xs ∧ DpAll K H xs ds := by
  cases h with | tup h1 h2 => exact ⟨_, _, rfl, h1, h2⟩
theorem of_lst (h : Dp K H v (.list ds)) : ∃ a xs, v = .ref a ∧ SqL K H a xs ∧ DpAll K H xs ds := by
  cases h with | lst h1 h2 => exact ⟨_, _, rfl, h1, h2⟩
theorem of_int {i : Int} (h : Dp K H v (.int i)) : v = .int i := by cases h; rfl
theorem of_str {i : Str} (h : Dp K H v (.str i)) : v = .str i := by cases h; rfl
theorem of_bl {i : Bool} (h : Dp K H v (.bool i)) : v = .bl i := by cases h; rfl
theorem of_non (h : Dp K H v .none) : v = .non := by cases h; rfl
theorem of_t2 {d e : PyData} (h : Dp K H v (.tuple [d, e])) : ∃ a x y, v = .ref a ∧ SqT K H a [x, y] ∧ Dp K H x d ∧ Dp K H y e := by
  obtain ⟨a, xs, rfl, h1, h2⟩ := of_tup h
  cases h2 with
  | cons p1 p2 => cases p2 with | cons p3 p4 => cases p4; exact ⟨a, _, _, rfl, h1, p1, p3⟩
theorem of_t3 {d e f : PyData} (h : Dp K H v (.tuple [d, e, f])) : ∃ a x y z, v = .ref a ∧ SqT K H a [x, y, z] ∧ Dp K H x d ∧ Dp K H y e ∧ Dp K H z f := by
  obtain ⟨a, xs, rfl, h1, h2⟩ := of_tup h
  cases h2 with
  | cons p1 p2 => cases p2 with | cons p3 p4 => cases p4 with | cons p5 p6 => cases p6; exact ⟨a, _, _, _, rfl, h1, p1, p3, p5⟩
theorem of_t4 {d e f g : PyData} (h : Dp K H v (.tuple [d, e, f, g])) : ∃ a x y z w, v = .ref a ∧ SqT K H a [x, y, z, w] ∧ Dp K H x d ∧ Dp K H y e ∧ Dp K H z f ∧ Dp K H w g := by
  obtain ⟨a, xs, rfl, h1, h2⟩ := of_tup h
  cases h2 with
  | cons p1 p2 => cases p2 with | cons p3 p4 => cases p4 with | cons p5 p6 => cases p6 with | cons p7 p8 => cases p8; exact ⟨a, _, _, _, _, rfl, h1, p1, p3, p5, p7⟩
end
/-- the part of a heap at which P holds -/
noncomputable def rs (P : Addr → Prop) (H : Hp) : Hp := fun a => @ite _ (P a) (Classical.propDecidable _) (H a) none
theorem rs_at {P : Addr → Prop} {H : Hp} {a : Addr} {o : HO} (p : P a) (h : H a = some o) : rs P H a = some o := by unfold rs; rw [if_pos p]; exact h
theorem rs_of {P : Addr → Prop} {H : Hp} {a : Addr} {o : HO} (h : rs P H a = some o) : P a ∧ H a = some o := by
  unfold rs at h
  split at h
  · rename_i p; exact ⟨p, h⟩
  · cases h
theorem rs_same {P P' : Addr → Prop} {H H' : Hp} (h : ∀ a o, P a → H a = some o → P' a ∧ H' a = some o) : Same (rs P H) (rs P' H') := fun a o e => by
  obtain ⟨p, q⟩ := rs_of e
  obtain ⟨p', q'⟩ := h a o p q
  exact rs_at p' q'
theorem rs_sub {P : Addr → Prop} {H : Hp} : Same (rs P H) H := fun a o e => (rs_of e).2
theorem rs_in {P : Addr → Prop} {H H' : Hp} (h : ∀ a o, P a → H a = some o → H' a = some o) : Same (rs P H) H' := fun a o e => h a o (rs_of e).1 (rs_of e).2
theorem rs_all {P : Addr → Prop} {H H' : Hp} (h : ∀ a o, H a = some o → P a ∧ H' a = some o) : Same H (rs P H') := fun a o e => rs_at (h a o e).1 (h a o e).2
/-- a list that changes: what stood ahead of it stands -/
theorem same_mut {H H' : Hp} {a : Addr} {o : HO} (e : Same H H') (h : H a = none) : Same H (upd H' a o) := fun b o' q => by
  rw [upd_ne (fun z => by rw [z, h] at q; cases q)]; exact e b o' q
section
variable {K : PySem.W.Frag} {σ : L2.St} {H : Hp} {g : TG} {tt : TT} {te : TE} {tb : TS} {D : Ends} {x y : V} {Q : VK}
theorem L_rlD {v : V} {ds : List PyData} {R : Addr → Prop} (h : Dp K H v (.list ds)) (q : ∀ a, v = .ref a → R a) : ∃ b, v = V.ref b ∧ (∃ xs, SqL K H b xs) ∧ R b := by
  obtain ⟨a, xs, rfl, h1, h2⟩ := of_lst h
  exact ⟨a, rfl, ⟨xs, h1⟩, q a rfl⟩
/-- for x in a list of data -/
theorem for_dp {a : Addr} {ds : List PyData} (h : Dp K H (.ref a) (.list ds)) (Pv : Nat → L2.St → Hp → Prop) (h0 : Pv 0 σ H) (hG : ∀ i σ' H', i ≤ ds.length → Pv i σ' H' → Same H H')
    (hs : ∀ i d x σ' H', i < ds.length → ds[i]? = some d → Pv i σ' H' → Dp K H' x d → g x σ' H' fun σ2 H2 => tb { D with nx := Pv (i + 1), ct := Pv (i + 1), bk := D.nx } σ2 H2) (hd : ∀ σ' H', Pv ds.length σ' H' → D.nx σ' H') :
    ∃ W : Nat → Nat → L2.St → Hp → Prop, (∃ m, W 0 m σ H) ∧ ∀ i m σ H, W i m σ H →
      ((Itl K a).stop i H ∧ D.nx σ H) ∨ ((Itl K a).go i H ∧ ∃ N : L2.St → Hp → Prop, (∀ σ' H', N σ' H' → ∃ m', m' < m ∧ W (i + 1) m' σ' H') ∧ ∀ x H', (Itl K a).yld i H x H' → g x σ H' fun σ2 H2 => tb { D with nx := N, ct := N, bk := D.nx } σ2 H2) := by
  obtain ⟨a', xs, ea, h1, h2⟩ := of_lst h
  cases ea
  have hl := h2.len
  refine for_it walk_list Pv h0 (fun i σ' H' hi p => (hG i σ' H' (by omega) p).seq h1) (fun i x σ' H' H'' hi p ⟨e1, e2⟩ => ?_) (fun σ' H' p => hd σ' H' (by rw [← hl]; exact p))
  subst e1
  obtain ⟨d, e3, e4⟩ := h2.of e2
  exact hs i d x σ' _ (by omega) e3 p (e4.same (hG i σ' _ (by omega) p))
/-- a comprehension: what turn i gives is told as data, or none; the new list's things stand apart from it -/
theorem lc_dp {J : It} {n : Nat} {G : Hp → Prop} {Y : Nat → Hp → V → Hp → Prop} (w : L2.Walk J n G Y) {vs : List Nat} {Qd : Addr → Hp → Prop} (f : Nat → Option PyData) (hn : n ≤ 1000000) (hG : ∀ H', Same H H' → G H')
    (hs : ∀ i x p H2 H' (R : V → Hp → Prop) (R' : Hp → Prop), i < n → H p = none → Same H H2 → (∃ o, H2 p = some o) → Y i H2 x H' → (∀ y d H4, f i = some d → Same H2 H4 → Dp K (rs (· ≠ p) H4) y d → R y H4) → (∀ H3, f i = none → Same H2 H3 → R' H3) →
      g x (wipe σ vs) H' fun σ2 H2 => wipe σ2 vs = wipe σ vs ∧ tt σ2 H2 fun b H3 => if b = true then te σ2 H3 R else R' H3)
    (q : ∀ p H' vs, H p = none → Same H H' → H' p = some (.lst vs) → DpAll K (rs (· ≠ p) H') vs ((List.range n).filterMap f) → Qd p H') :
    ∀ D, H D = none → ∃ W : Nat → Nat → Hp → Prop, (∃ m, W 0 m (upd H D (.lst []))) ∧ ∀ i m H, W i m H →
      (J.stop i H ∧ Qd D H) ∨ (J.go i H ∧ ∃ Nx : Hp → Prop, (∀ H', Nx H' → ∃ m', m' < m ∧ W (i + 1) m' H') ∧ ∀ x H', J.yld i H x H' → g x (wipe σ vs) H' fun σ2 H2 => wipe σ2 vs = wipe σ vs ∧ tt σ2 H2 fun b H3 =>
        if b = true then te σ2 H3 fun y H4 => ∃ acc, H4 D = some (.lst acc) ∧ acc.length < sizeLine ∧ Nx (upd H4 D (.lst (acc ++ [y]))) else Nx H3) := by
  intro D hD
  refine lc_it w (fun i H2 => Same H H2 ∧ ∃ us, H2 D = some (.lst us) ∧ DpAll K (rs (· ≠ D) H2) us ((List.range i).filterMap f)) ⟨same_new hD, [], upd_same, .nil⟩ (fun i H2 _ p => hG H2 p.1) ?_ (fun H2 ⟨p1, us, p2, p3⟩ => q D H2 us hD p1 p2 p3)
  rintro i x H2 H' hi ⟨p1, us, p2, p3⟩ y
  refine hs i x D H2 H' _ _ hi hD p1 ⟨_, p2⟩ y (fun y d H4 e s dy => ?_) (fun H3 e s => ?_)
  · have e4 : Same (rs (· ≠ D) H2) (rs (· ≠ D) H4) := rs_same fun a o h1 h2 => ⟨h1, s _ _ h2⟩
    have e5 : Same (rs (· ≠ D) H4) (rs (· ≠ D) (upd H4 D (.lst (us ++ [y])))) := rs_same fun a o h1 h2 => ⟨h1, by rw [upd_ne h1]; exact h2⟩
    refine ⟨us, s _ _ p2, sz_lt (by have := p3.len; have := fm_len' f i; omega), same_mut (p1.trans s) hD, _, upd_same, ?_⟩
    rw [fm_succ', e]
    exact ((p3.same e4).same e5).snoc (dy.same e5)
  · refine ⟨p1.trans s, us, s _ _ p2, ?_⟩
    rw [fm_succ', e, List.append_nil]
    exact p3.same (rs_same fun a o h1 h2 => ⟨h1, s _ _ h2⟩)
end
/-! ### defs that may raise -/
structure MetX (P : Program) (w : World) (K : PySem.W.Frag) (mg : Str → Option Value) (base : Heap) (k : Nat) (C : Addr) (m : Str) (sp : Sp) : Prop where
  ex : ∃ (f : Addr) (fd : FuncData) (ps : List Str), Cls K C ∧ Meth K C m f ∧ FnOk P w K mg base (L2.CX P w) k f fd ps sp ∧ Binds K fd ps []
structure MakX (P : Program) (w : World) (K : PySem.W.Frag) (mg : Str → Option Value) (base : Heap) (k : Nat) (x : Str) (C : Addr) (sp : Sp) : Prop where
  ex : ∃ (f : Addr) (fd : FuncData) (ps : List Str), Mk K C f ∧ FnOk P w K mg base (L2.CX P w) k f fd ps sp ∧ mg x = some (.ref C) ∧ Binds K fd ps []
section
variable {P : Program} {w : World} {K : PySem.W.Frag} {mg : Str → Option Value} {base : Heap}
theorem MethAt.metX {C : Addr} {m qual : Str} {st : Stmt} {N ps : List Str} {k : Nat} {sp : Sp} (c : Cls K C) (d : MethAt K C m qual st ps) (S : FnScope N ps (defScope st)) (len : ∀ vs H Q E, sp vs H Q E → vs.length = ps.length)
    (hbody : ∀ (f : Addr) (cdv : Value) (A : Around) (outer : List Env) (s : Shared) (H : Hp) (vs : List V) (Q : VK) (E : XK), Room k (A.deeper (envOfC qual (defScope st) s.heap.objs.size f cdv)) → sp vs H Q E →
      ∃ t, PSs (cxOf (L2.CX P w) P w K mg base N qual (defScope st) f cdv A outer s H E) (defBody st) t ∧ t { nx := fun _ H' => Q .non H', rt := Q } (start N vs) H) : MetX P w K mg base (k + 1) C m sp := by
  obtain ⟨f, fd, F, hm, b⟩ := d.ex
  exact ⟨f, fd, ps, c, hm, F.okX S len (hbody f), b⟩
theorem InitAt.makX {x : Str} {C : Addr} {qual : Str} {st : Stmt} {N ps : List Str} {k : Nat} {sp : Sp} (hx : mg x = some (.ref C)) (d : InitAt K C qual st ps) (S : FnScope N ps (defScope st)) (len : ∀ vs H Q E, sp vs H Q E → vs.length = ps.length)
    (hbody : ∀ (f : Addr) (cdv : Value) (A : Around) (outer : List Env) (s : Shared) (H : Hp) (vs : List V) (Q : VK) (E : XK), Room k (A.deeper (envOfC qual (defScope st) s.heap.objs.size f cdv)) → sp vs H Q E →
      ∃ t, PSs (cxOf (L2.CX P w) P w K mg base N qual (defScope st) f cdv A outer s H E) (defBody st) t ∧ t { nx := fun _ H' => Q .non H', rt := Q } (start N vs) H) : MakX P w K mg base (k + 1) x C sp := by
  obtain ⟨f, fd, F, hm, b⟩ := d.ex
  exact ⟨f, fd, ps, hm, F.okX S len (hbody f), hx, b⟩
end
/-- where no exception is wanted -/
theorem passN {X : Cx} (σ : L2.St) : PassesAt (L2.CX X.prog X.w) X σ ((fun _ => E0) σ) := fun pins H s e s' I c => passL pins σ H s e s' I c
/-- x.m(..), C(..), where what is raised is wished for at the caller's slots -/
def tMethE (C : Addr) (m : Str) (sp : Sp) (E : L2.St → XK) (ta : TE) (t : TA) : TE := fun σ H Q => ta σ H fun x H1 => ∃ a dx fs, x = .ref a ∧ H1 a = some (.ins C dx fs) ∧ fs.lookup m = none ∧ t σ H1 fun vs H2 => sp (x :: vs) H2 Q (E σ)
def tMakeE (C : Addr) (sp : Sp) (E : L2.St → XK) (t : TA) : TE := fun σ H Q => t σ H fun vs H1 => ∀ x dx, H1 x = none → H1 dx = none → dx ≠ x →
  sp (.ref x :: vs) (upd (upd H1 dx (.own x)) x (.ins C dx [])) (fun v H2 => v = .non ∧ Q (.ref x) H2) (E σ)
section
variable {X : Cx} {CX : CXT} {k j : Nat} {f C : Addr} {fd : FuncData} {ps : List Str} {x m : Str} {sp : Sp} {p pos apos : Pos} {e o : Expr} {es : List Expr} {ta : TE} {t : TA} {E : L2.St → XK}
theorem run_makeS {pins : List (Addr × Obj)} {σ : L2.St} {H : Hp} {s : Shared} {Q : VK} {us : List Value} {vs : List V} (M : Mk X.K C f) (F : FnOk X.prog X.w X.K X.mg X.base CX k f fd ps sp) (hr : Room (k + 1) X.A) (hb : Binds X.K fd ps [])
    (hx : PassesAt CX X σ (E σ)) (I : Inv X pins σ H s) (r : Vals vs us)
    (h : ∀ x dx, H x = none → H dx = none → dx ≠ x → sp (.ref x :: vs) (upd (upd H dx (.own x)) x (.ins C dx [])) (fun v H2 => v = .non ∧ Q (.ref x) H2) (E σ)) :
    wpAny (model X.prog X.w) X.A (call (.ref C) us) (EP X pins σ Q) X.xe s := by
  -- the new object's place, its dict's place
  obtain ⟨dn, hdn⟩ : ∃ dn, dn = s.heap.objs.size := ⟨_, rfl⟩
  have fresh1 : H dn = none := I.hok.fresh (Nat.le_of_eq hdn.symm)
  have fresh2 : H (dn + 1) = none := I.hok.fresh (Nat.le_succ_of_le (Nat.le_of_eq hdn.symm))
  have asked := h (dn + 1) dn fresh2 fresh1 (Nat.ne_of_lt (Nat.lt_succ_self _))
  have J := Inv.made (C := C) I
  rw [← hdn] at J
  have args : Vals (V.ref (dn + 1) :: vs) (Value.ref (dn + 1) :: us) := .cons rfl r
  have many : (Value.ref (dn + 1) :: us).length = ps.length := args.length.symm.trans (F.len _ _ _ _ asked)
  have bound := hb _ (Value.ref (dn + 1) :: us) J.kIn (by rw [List.append_nil]; exact many)
  rw [List.append_nil] at bound
  subst hdn
  refine wpAny_call (make_map (f := f) I.kIn M.makes M.init (beq_iff_eq.mp M.fn) ?_)
  refine codeAny_mono (F.run _ X.stack _ _ ⟨_, []⟩ _ _ _ (E σ) (hr.make C us []) (J.env0.make C us []) bound args asked) fun out s' ho => ?_
  match out, ho with
  | .error e, ho => exact hx pins _ _ e s' J ho
  | .ok (.ret u), ho =>
    obtain ⟨v, H', J', rel, hv, rest⟩ := J.after ho
    cases hv
    exact ⟨rel, .ref (s.heap.objs.size + 1), H', J', rfl, rest⟩
  | .ok .next, ho => exact ho.elim
  | .ok .brk, ho => exact ho.elim
  | .ok .cont, ho => exact ho.elim
theorem pe_xS (c : CalX X.prog X.w X.K X.mg X.base k x sp) (hr : Room j X.A) (hk : k ≤ j) (hg : Gl X x) (hx : ∀ σ, PassesAt (L2.CX X.prog X.w) X σ (E σ)) (ha : PA X (e :: es) t)
    (hdb : (x == ("__debug__" : Str)) = false := by decide) (he : starEach (e :: es) X.env = (false, eval e X.env) :: starEach es X.env := by rfl) (hpl : (backTo pos (starEach es X.env)).any (·.1) = false := by rfl) :
    PE X (.Call (.Name x p) (e :: es) [] pos) (tCallS sp E t) := by
  obtain ⟨f, fd, ps, F, hm, kp, b⟩ := c.ex
  exact pe_callS F (hr.mono hk) hg hm kp b hx ha hdb he hpl
theorem pe_xMk (c : MakX X.prog X.w X.K X.mg X.base k x C sp) (hr : Room j X.A) (hk : k + 1 ≤ j) (hg : Gl X x) (hx : ∀ σ, PassesAt (L2.CX X.prog X.w) X σ (E σ)) (ha : PA X (e :: es) t)
    (hdb : (x == ("__debug__" : Str)) = false := by decide) (he : starEach (e :: es) X.env = (false, eval e X.env) :: starEach es X.env := by rfl) (hpl : (backTo pos (starEach es X.env)).any (·.1) = false := by rfl) :
    PE X (.Call (.Name x p) (e :: es) [] pos) (tMakeE C sp E t) := by
  obtain ⟨f, fd, ps, M, F, hm, hb⟩ := c.ex
  refine ⟨fun pins s σ H Q I h => ?_⟩
  refine wpAny_Call_Name_kw (ld_glob I hg hm ?_ hdb)
  refine PySem.W.callWith_K (h₀ := X.base) I.ok.mod.kin M.kp (thn (ha.run pos pins s σ H _ I h) fun us s1 ⟨vs, H1, I1, r, q⟩ => ⟨I1.kIn, ?_⟩) he hpl
  exact run_makeS M F (hr.mono hk) hb (hx σ) I1 r q
theorem pe_xMt {pl : Sem Bool} (c : MetX X.prog X.w X.K X.mg X.base k C m sp) (hr : Room j X.A) (hk : k ≤ j) (hx : ∀ σ, PassesAt (L2.CX X.prog X.w) X σ (E σ)) (he : PE X o ta) (ha : PA X (e :: es) t)
    (hst : starEach (e :: es) X.env = (false, eval e X.env) :: starEach es X.env := by rfl) (hpl : (backTo pos (starEach es X.env)).any (·.1) = false := by rfl)
    (ht : eval (.Call (.Attribute o m apos) (e :: es) [] pos) X.env = (do
      let ov ← eval o X.env
      standAt apos.atName
      let (f, first) ← holding [ov] (getMethod ov m pl)
      callWith pos f first (backTo pos (starEach (e :: es) X.env)) (backToKw pos (keywordEach [] X.env))) := by rfl) :
    PE X (.Call (.Attribute o m apos) (e :: es) [] pos) (tMethE C m sp E ta t) := by
  obtain ⟨f, fd, ps, hc, hm, F, hb⟩ := c.ex
  refine ⟨fun pins s σ H Q I h => ?_⟩
  refine PySem.W.methodCall_KW (pl := pl) (thn (he.run pins s σ H _ I h) fun u s1 ⟨x, H1, I1, rx, a, dx, fs, ex, ea, l, q⟩ => ?_) ht
  subst ex
  obtain rfl : u = Value.ref a := rx
  refine getmeth_ok I1 ea hc hm l ?_
  refine PySem.W.callWith_K (first := [.ref a]) (h₀ := X.base) I.ok.mod.kin hm.kp (thn (ha.run pos pins s1 σ H1 _ I1 q) fun us s2 ⟨vs, H2, I2, r, q2⟩ => ⟨I2.kIn, ?_⟩) hst hpl
  exact run_fnS (us := .ref a :: us) (vs := .ref a :: vs) F (hr.mono hk) hb (hx σ) I2 (.cons rfl r) q2
theorem pe_xMt0 {pl : Sem Bool} (c : MetX X.prog X.w X.K X.mg X.base k C m sp) (hr : Room j X.A) (hk : k ≤ j) (hx : ∀ σ, PassesAt (L2.CX X.prog X.w) X σ (E σ)) (he : PE X o ta)
    (ht : eval (.Call (.Attribute o m apos) [] [] pos) X.env = (do
      let ov ← eval o X.env
      standAt apos.atName
      let (f, first) ← holding [ov] (getMethod ov m pl)
      callWith pos f first (backTo pos (starEach [] X.env)) (backToKw pos (keywordEach [] X.env))) := by rfl) :
    PE X (.Call (.Attribute o m apos) [] [] pos) (tMethE C m sp E ta tNil) := by
  obtain ⟨f, fd, ps, hc, hm, F, hb⟩ := c.ex
  refine ⟨fun pins s σ H Q I h => ?_⟩
  refine PySem.W.methodCall_KW (pl := pl) (thn (he.run pins s σ H _ I h) fun u s1 ⟨x, H1, I1, rx, a, dx, fs, ex, ea, l, q⟩ => ?_) ht
  subst ex
  obtain rfl : u = Value.ref a := rx
  refine getmeth_ok I1 ea hc hm l ?_
  exact PySem.W.callWith_K0 (first := [.ref a]) I1.kIn hm.kp (run_fnS (us := [.ref a]) (vs := [.ref a]) F (hr.mono hk) hb (hx σ) I1 (.cons rfl .nil) q)
end
/-- an own exception class that is raised; one that is caught -/
structure ExcAt (K : PySem.W.Frag) (C : Addr) : Prop where
  x : PySem.W.excIn K C [.type "ValueError", .type "Exception", .type "BaseException", .type "object"] "ValueError.__new__" = true
  k : PySem.W.keepIn K (.ref C) = true
  b : PySem.W.subIn K (.ref C) (.type "BaseException") = some true
  t : PySem.W.typeIn K (.ref C) = some (.type "type")
structure ExcK (K : PySem.W.Frag) (C : Addr) : Prop where
  b : PySem.W.subIn K (.ref C) (.type "BaseException") = some true
  i : PySem.W.isClsIn K C = true
  t : PySem.W.typeIn K (.ref C) = some (.type "type")
theorem ExcK.exm {K : PySem.W.Frag} {C D : Addr} {r : Bool} (c : ExcK K C) (h : PySem.W.subIn K (.ref D) (.ref C) = some r) : PySem.W.exmOne K (.ref D) (.ref C) = some r := by
  have e1 : (PySem.W.subIn K (.ref C) (.type "BaseException") == some true) = true := by rw [c.b] <;> rfl
  have e2 : ((PySem.W.clsIn K C).isSome && PySem.W.typeIn K (.ref C) == some (.type "type")) = true := by
    have h2' : (PySem.W.clsIn K C).isSome = true := c.i
    rw [h2', c.t] <;> rfl
  show (if (PySem.W.subIn K (.ref C) (.type "BaseException") == some true) = true then (if ((PySem.W.clsIn K C).isSome && PySem.W.typeIn K (.ref C) == some (.type "type")) = true then PySem.W.subIn K (.ref D) (.ref C) else none) else none) = some r
  rw [if_pos e1, if_pos e2]
  exact h
/-- C() -/
theorem pmk_own0 {X : Cx} {C : Addr} {x : Str} {p pos : Pos} (c : ExcAt X.K C) (gC : X.mg x = some (.ref C)) (hg : Gl X x) (hdb : (x == ("__debug__" : Str)) = false := by decide) :
    PMk X (.Call (.Name x p) [] [] pos) (fun _ H Q => Q (.ref C) none H) := by
  intro pins s σ H Q I h
  refine wpAny_Call_Name_kw (ld_glob I hg gC ?_ hdb)
  refine PySem.W.callWith_K0 I.kIn c.k ?_
  obtain ⟨bm, N, nm, qn, bs, hdct, sn, sub, ab, col, dd, k0, k1, k2, k3, k5, mN, hC, hN, hni, T⟩ := exc_obj I.kIn c.x
  refine wpAny_call_exc_subT PySem.F.excBase_ValueError T hC hN hni (fun h' e hm => ?_) (Nat.zero_le _)
  exact mk_of I hm (raises_own c.b c.t) h (I.hok.gone hm.new)
section
variable {K : PySem.W.Frag} {σ : L2.St} {H : Hp} {ta : TE} {tr : TA} {Q : VK} {E : L2.St → XK} {C : Addr} {m : Str} {sp : Sp}
theorem L_callS (h : tr σ H fun vs H1 => sp vs H1 Q (E σ)) : tCallS sp E tr σ H Q := h
theorem L_methE (h : ta σ H fun x H1 => ∃ a dx fs, x = .ref a ∧ H1 a = some (.ins C dx fs) ∧ fs.lookup m = none ∧ tr σ H1 fun vs H2 => sp (x :: vs) H2 Q (E σ)) : tMethE C m sp E ta tr σ H Q := h
theorem L_makeE (h : tr σ H fun vs H1 => MakeP C sp (E σ) vs H1 Q) : tMakeE C sp E tr σ H Q := h
theorem L_meth {E : XK} (h : ta σ H fun x H1 => ∃ a dx fs, x = .ref a ∧ H1 a = some (.ins C dx fs) ∧ fs.lookup m = none ∧ tr σ H1 fun vs H2 => sp (x :: vs) H2 Q E) : tMeth C m sp [] E ta tr σ H Q := by
  unfold tMeth
  simp only [List.append_nil]
  exact h
theorem L_methv {a dx : Addr} {fs : List (Str × V)} {R : Prop} (h : H a = some (.ins C dx fs)) (l : fs.lookup m = none) (q : R) : ∃ a' dx fs, V.ref a = V.ref a' ∧ H a' = some (.ins C dx fs) ∧ fs.lookup m = none ∧ R := ⟨a, dx, fs, rfl, h, l, q⟩
theorem L_only {c : Value} {ts : Addr → Value → Option Addr → TS} {Wout : WX} {D : Ends} {cls : Value} {d : Option Addr} (h : PySem.W.exmOne K cls c = some true) (q : ∀ a, H a = none → ts a cls d D σ H) : wOnly K c ts Wout D cls d σ H := ⟨true, h, fun _ => q, fun z => nomatch z⟩
end
/-- no whole number: another kind of thing, or a truth -/
def NotW (K : PySem.W.Frag) (H : Hp) (v : V) : Prop := (∃ b, v = .bl b) ∨ ∃ a, TyX K H v (.type a) ∧ kitB a "int" = some false
/-- what is_whole denies -/
def BadW (K : PySem.W.Frag) (H : Hp) (v : V) (lo hi : Int) : Prop := NotW K H v ∨ ∃ t, v = .int t ∧ ¬ (lo ≤ t ∧ t ≤ hi)
section
variable {K : PySem.W.Frag} {H : Hp}
theorem notw_non : NotW K H .non := .inr ⟨_, .base .non, by decide +kernel⟩
theorem notw_bl {b : Bool} : NotW K H (.bl b) := .inl ⟨b, rfl⟩
theorem notw_str {z : Str} : NotW K H (.str z) := .inr ⟨_, .base (.str z), by decide +kernel⟩
theorem notw_lst {a : Addr} {xs : List V} (h : H a = some (.lst xs)) : NotW K H (.ref a) := .inr ⟨_, .base (.lst h), by decide +kernel⟩
theorem notw_tup {a : Addr} {xs : List V} (h : H a = some (.tup xs)) : NotW K H (.ref a) := .inr ⟨_, .base (.tup h), by decide +kernel⟩
theorem notw_dK {a : Addr} {xs : List (Key × V)} (h : H a = some (.dK xs)) : NotW K H (.ref a) := .inr ⟨_, .base (.dK h), by decide +kernel⟩
theorem badw_int {t lo hi : Int} (h : ¬ (lo ≤ t ∧ t ≤ hi)) : BadW K H (.int t) lo hi := .inr ⟨t, rfl, h⟩
theorem NotW.bad {v : V} {lo hi : Int} (h : NotW K H v) : BadW K H v lo hi := .inl h
end
section
variable {K : PySem.W.Frag} {H H' : Hp}
theorem tyx_T {a : Addr} {xs : List V} (h : SqT K H a xs) : TyX K H (.ref a) (.type "tuple") := by
  rcases h with (h | ⟨o, h⟩) | ⟨o, _, _, h, c, _⟩
  · exact .base (.tup h)
  · exact .fTuple h
  · exact .kTuple h c
theorem tyx_L {a : Addr} {xs : List V} (h : SqL K H a xs) : TyX K H (.ref a) (.type "list") := by
  rcases h with (h | ⟨o, h⟩) | ⟨o, _, _, h, c, _⟩
  · exact .base (.lst h)
  · exact .base (.frz h)
  · exact .kList h c
variable {σ : L2.St} {Q : VK}
theorem L_sort2 {a : Addr} {x y : Int} (h : SqL K H a [V.int x, V.int y]) (q : ∀ p, H p = none → Q (.ref p) (upd H p (.lst [V.int (min x y), V.int (max x y)]))) : rSorted K [.ref a] H Q := by
  refine ⟨a, [x, y], rfl, h, by simp, fun ns p hp hs hn => ?_⟩
  have hl := hp.length_eq
  match ns, hl with
  | [u, v], _ =>
    have hle : u ≤ v := by simpa using hs
    have hm : (u = x ∧ v = y) ∨ (u = y ∧ v = x) := by
      have h1 : u ∈ [x, y] := hp.mem_iff.mp (by simp)
      have h2 : v ∈ [x, y] := hp.mem_iff.mp (by simp)
      have h3 : x ∈ [u, v] := hp.mem_iff.mpr (by simp)
      have h4 : y ∈ [u, v] := hp.mem_iff.mpr (by simp)
      simp only [List.mem_cons, List.not_mem_nil, or_false] at h1 h2 h3 h4
      rcases h1 with h1 | h1 <;> rcases h2 with h2 | h2 <;> rcases h3 with h3 | h3 <;> rcases h4 with h4 | h4 <;> omega
    have e : [u, v] = [min x y, max x y] := by
      rcases hm with ⟨rfl, rfl⟩ | ⟨rfl, rfl⟩
      · rw [Int.min_eq_left hle, Int.max_eq_right hle]
      · rw [Int.min_eq_right hle, Int.max_eq_left hle]
    rw [e]
    exact q p hn
theorem L_list1 {a : Addr} {xs : List V} (h : SqL K H a xs) (q : ∀ l, H l = none → Q (.ref l) (upd H l (.lst xs))) : aList1 K [.ref a] H Q := ⟨a, xs, rfl, .inl h, q⟩
theorem L_tuple1 {a : Addr} {xs : List V} (h : SqL K H a xs) (q : ∀ l, H l = none → Q (.ref l) (upd H l (.tup xs))) : aTuple1 K [.ref a] H Q := ⟨a, xs, rfl, .inl ⟨h, q⟩⟩
theorem eqv_same {d : PyData} (h : SeqAt.shaped d = true) : PyData.eqv d d = true := SeqAt.eqv_refl d (SeqAt.canLay_of_shaped h)
theorem L_eqR {x y : V} {d : PyData} (hx : Dp K H x d) (hy : Dp K H y d) (s : SeqAt.shaped d = true) (q : Q (.bl true) H) : aEq K x y H Q := L_eqD hx hy s s (by rw [eqv_same s]; exact q)
theorem L_neR {x y : V} {d : PyData} (hx : Dp K H x d) (hy : Dp K H y d) (s : SeqAt.shaped d = true) (q : Q (.bl false) H) : aNe K x y H Q := L_neD hx hy s s (by rw [eqv_same s]; exact q)
theorem L_zipA {a b : Addr} {xs ys : List V} {R : Addr → Addr → Prop} (h1 : SqL K H a xs) (h2 : SqL K H b ys) (q : R a b) : ∃ a' b' xs ys, [V.ref a, V.ref b] = [.ref a', .ref b'] ∧ SqL K H a' xs ∧ SqL K H b' ys ∧ R a' b' := ⟨a, b, xs, ys, rfl, h1, h2, q⟩
end
/-- data that == may be asked of, at most n deep -/
structure Shp (n : Nat) (d : PyData) : Prop where
  c : d.canLay0 = true
  d : d.depth ≤ n
theorem Shp.ok {n : Nat} {d : PyData} (h : Shp n d) (hn : n ≤ 64 := by decide) : SeqAt.shaped d = true := by
  unfold SeqAt.shaped
  rw [h.c, decide_eq_true (Nat.le_trans h.d hn)]; rfl
theorem shp_int {n : Nat} {i : Int} : Shp n (.int i) := ⟨by simp [PyData.canLay0], by simp [PyData.depth]⟩
theorem shp_bl {n : Nat} {i : Bool} : Shp n (.bool i) := ⟨by simp [PyData.canLay0], by simp [PyData.depth]⟩
theorem shp_non {n : Nat} : Shp n .none := ⟨by simp [PyData.canLay0], by simp [PyData.depth]⟩
theorem shp_str {n : Nat} {z : Str} (h : PyData.strOk z = true) : Shp n (.str z) := ⟨by simpa [PyData.canLay0] using h, by simp [PyData.depth]⟩
theorem shp_all {n : Nat} : ∀ {ds : List PyData}, (∀ d ∈ ds, Shp n d) → PyData.canLayAll0 ds = true ∧ PyData.depthAll ds ≤ n
  | [], _ => ⟨by simp [PyData.canLayAll0], by simp [PyData.depthAll]⟩
  | d :: ds, h => by
    have h1 := h d (List.mem_cons_self ..)
    have h2 := shp_all fun x hx => h x (List.mem_cons_of_mem _ hx)
    exact ⟨by simp [PyData.canLayAll0, h1.c, h2.1], by simp only [PyData.depthAll]; exact Nat.max_le.mpr ⟨h1.d, h2.2⟩⟩
theorem shp_lst {n : Nat} {ds : List PyData} (h : ∀ d ∈ ds, Shp n d) : Shp (n + 1) (.list ds) := ⟨by simp only [PyData.canLay0]; exact (shp_all h).1, by simp only [PyData.depth]; have := (shp_all h).2; omega⟩
theorem shp_tup {n : Nat} {ds : List PyData} (h : ∀ d ∈ ds, Shp n d) : Shp (n + 1) (.tuple ds) := ⟨by simp only [PyData.canLay0]; exact (shp_all h).1, by simp only [PyData.depth]; have := (shp_all h).2; omega⟩
theorem shp_nil {n : Nat} : ∀ d ∈ ([] : List PyData), Shp n d := fun _ h => nomatch h
theorem shp_cons {n : Nat} {d : PyData} {ds : List PyData} (h : Shp n d) (t : ∀ d ∈ ds, Shp n d) : ∀ x ∈ d :: ds, Shp n x := fun x hx => by
  rcases List.mem_cons.mp hx with rfl | hx
  · exact h
  · exact t x hx
theorem shp_map {n : Nat} {α : Type} {f : α → PyData} {l : List α} (h : ∀ a ∈ l, Shp n (f a)) : ∀ d ∈ l.map f, Shp n d := fun d hd => by
  obtain ⟨a, ha, rfl⟩ := List.mem_map.mp hd
  exact h a ha
theorem shp_ints {n : Nat} {l : List Int} : Shp (n + 1) (.list (l.map .int)) := shp_lst (shp_map fun _ _ => shp_int)
theorem _root_.L2.Dp.ints {K : PySem.W.Frag} {H : Hp} {a : Addr} {ns : List Int} (h : SqL K H a (ns.map V.int)) : Dp K H (.ref a) (.list (ns.map .int)) := .lst h (dp_ints ns)
section
variable {K : PySem.W.Frag} {H : Hp} {Q : VK}
theorem L_powE {i j n : Int} (h : CPow i j) (e : i ^ j.toNat = n) (q : Q (.int n) H) : rI CPow (fun i j => .int (i ^ j.toNat)) (.int i) (.int j) H Q := ⟨i, j, rfl, rfl, h, by subst e; exact q⟩
/-- one of some ints -/
theorem L_menu {ns : List Int} {p : Addr} {i : Int} (h : SqL K H p (ns.map V.int)) (h0 : 0 ≤ i) (h1 : i < ns.length) (q : ∀ v ∈ ns, Q (.int v) H) : rIx K (.ref p) (.int i) H Q := by
  have hl : i.toNat < ns.length := by omega
  refine L_ixL h (atI_ints h0 h1) (q _ ?_)
  rw [List.getD_eq_getElem?_getD, List.getElem?_eq_getElem hl]
  exact List.getElem_mem hl
/-- an item of a list of ints, some property of all its items kept -/
theorem L_ixP {ns : List Int} {p : Addr} {i : Int} {P : Int → Prop} (h : SqL K H p (ns.map V.int)) (hP : ∀ v ∈ ns, P v) (h0 : 0 ≤ i) (h1 : i < ns.length) (q : ∀ v, P v → Q (.int v) H) : rIx K (.ref p) (.int i) H Q :=
  L_menu h h0 h1 fun v hv => q v (hP v hv)
end
theorem cdiv_lit {i j : Int} (h : 0 < j ∧ j < 1000000000000) : CDivW i j := (bd_64 (by omega)).cdiv h.1
theorem cpow_lit {i j : Int} (h : 0 ≤ j ∧ j ≤ 1000 ∧ -1000000 < i ∧ i < 1000000) : CPow i j := by
  have e : (2 : Nat) ^ 64 = 18446744073709551616 := by decide
  exact ⟨h.1, by omega, by omega⟩
theorem same_newE {H Hn : Hp} {p : Addr} {o : HO} (e : upd H p o = Hn) (h : H p = none) : Same H Hn := e ▸ same_new h
theorem upd_at {H Hn : Hp} {p : Addr} {o : HO} (e : upd H p o = Hn) : Hn p = some o := e ▸ upd_same
section
variable {K : PySem.W.Frag} {H H' : Hp} {p q : Addr} {us xs : List V} {ds : List PyData} {d : PyData} {y : V} {o : HO}
/-- a list grows: its things stand apart from it -/
theorem dp_grow (hdp : DpAll K (rs (· ≠ p) H) us ds) (s : Same H H') (hy : Dp K (rs (· ≠ p) H') y d) : DpAll K (rs (· ≠ p) (upd H' p o)) (us ++ [y]) (ds ++ [d]) :=
  (hdp.same (rs_same fun a u na ha => ⟨na, by rw [upd_ne na]; exact s _ _ ha⟩)).snoc (hy.same (rs_same fun a u na ha => ⟨na, by rw [upd_ne na]; exact ha⟩))
theorem dp_tupN (h : H q = some (.tup xs)) (n : q ≠ p) (ha : DpAll K (rs (· ≠ p) H) xs ds) : Dp K (rs (· ≠ p) H) (.ref q) (.tuple ds) := .tup (.of (rs_at n h)) ha
theorem dp_lstN (h : H q = some (.lst xs)) (n : q ≠ p) (ha : DpAll K (rs (· ≠ p) H) xs ds) : Dp K (rs (· ≠ p) H) (.ref q) (.list ds) := .lst (.of (rs_at n h)) ha
/-- data that stood ahead of p -/
theorem dp_old {H0 : Hp} (h : Dp K H0 y d) (n : H0 p = none) (s : Same H0 H) : Dp K (rs (· ≠ p) H) y d := h.same (rs_all fun a u ha => ⟨fun z => (by rw [z, n] at ha; cases ha), s _ _ ha⟩)
theorem dpA_old {H0 : Hp} (h : DpAll K H0 us ds) (n : H0 p = none) (s : Same H0 H) : DpAll K (rs (· ≠ p) H) us ds := h.same (rs_all fun a u ha => ⟨fun z => (by rw [z, n] at ha; cases ha), s _ _ ha⟩)
theorem dp_whole (h : DpAll K (rs (· ≠ p) H) us ds) (e : H p = some (.lst us)) : Dp K H (.ref p) (.list ds) := .lst (.of e) (h.same rs_sub)
theorem ne_new (h : H p = none) (h' : ∃ o, H q = some o) : p ≠ q := fun z => by
  obtain ⟨o, e⟩ := h'
  rw [z, e] at h; cases h
end
theorem fm_get {α β : Type} (g : α → β) : ∀ (l : List α), (List.range l.length).filterMap (fun i => l[i]?.map g) = l.map g
  | [] => rfl
  | a :: l => by
    have ih := fm_get g l
    rw [List.length_cons, List.range_succ_eq_map]
    simp only [List.filterMap_cons, List.getElem?_cons_zero, Option.map_some, List.filterMap_map, Function.comp_def, List.getElem?_cons_succ, List.map_cons]
    rw [ih]
theorem sum_take {α : Type} {l : List α} {f : α → Int} {i : Nat} {x : α} (h : l[i]? = some x) : ((l.take (i + 1)).map f).sum = ((l.take i).map f).sum + f x := by
  rw [List.take_succ, h]
  simp
theorem sum_takeAll {α : Type} {l : List α} {f : α → Int} {n : Nat} (h : l.length ≤ n) : ((l.take n).map f).sum = (l.map f).sum := by rw [List.take_of_length_le h]
/-! ### loops, the ends told one by one -/
section
variable {K : PySem.W.Frag} {σ : L2.St} {H : Hp} {g : TG} {tb : TS} {N : L2.St → Hp → Prop} {R : VK}
/-- what a for asks behind its iterable -/
abbrev ForT (J : It) (σ : L2.St) (H : Hp) (g : TG) (tb : TS) (N : L2.St → Hp → Prop) (R : VK) : Prop :=
  ∃ W : Nat → Nat → L2.St → Hp → Prop, (∃ m, W 0 m σ H) ∧ ∀ i m σ H, W i m σ H →
      (J.stop i H ∧ N σ H) ∨ (J.go i H ∧ ∃ M : L2.St → Hp → Prop, (∀ σ' H', M σ' H' → ∃ m', m' < m ∧ W (i + 1) m' σ' H') ∧ ∀ x H', J.yld i H x H' → g x σ H' fun σ2 H2 => tb ⟨M, R, N, M⟩ σ2 H2)
theorem f_it {J : It} {n : Nat} {G : Hp → Prop} {Y : Nat → Hp → V → Hp → Prop} (w : L2.Walk J n G Y) (Pv : Nat → L2.St → Hp → Prop) (h0 : Pv 0 σ H) (hG : ∀ i σ H, i ≤ n → Pv i σ H → G H)
    (hs : ∀ i x σ H H', i < n → Pv i σ H → Y i H x H' → g x σ H' fun σ2 H2 => tb ⟨Pv (i + 1), R, N, Pv (i + 1)⟩ σ2 H2) (hd : ∀ σ H, Pv n σ H → N σ H) : ForT J σ H g tb N R :=
  for_it (D := ⟨N, R, N, N⟩) w Pv h0 hG hs hd
theorem f_range {lo : Int} {n : Nat} (Pv : Nat → L2.St → Hp → Prop) (h0 : Pv 0 σ H)
    (hs : ∀ i σ H, i < n → Pv i σ H → g (.int (lo + i)) σ H fun σ2 H2 => tb ⟨Pv (i + 1), R, N, Pv (i + 1)⟩ σ2 H2) (hd : ∀ σ H, Pv n σ H → N σ H) : ForT (Itr lo n) σ H g tb N R :=
  for_range (D := ⟨N, R, N, N⟩) Pv h0 hs hd
theorem f_rangeC {lo c : Int} {n : Nat} (Pv : Nat → L2.St → Hp → Prop) (h0 : Pv 0 σ H)
    (hs : ∀ i σ H, i < n → Pv i σ H → g (.int (lo + (i : Nat) * c)) σ H fun σ2 H2 => tb ⟨Pv (i + 1), R, N, Pv (i + 1)⟩ σ2 H2) (hd : ∀ σ H, Pv n σ H → N σ H) : ForT (Itc lo c n) σ H g tb N R :=
  for_rangeC (D := ⟨N, R, N, N⟩) Pv h0 hs hd
theorem f_dp {a : Addr} {ds : List PyData} (h : Dp K H (.ref a) (.list ds)) (Pv : Nat → L2.St → Hp → Prop) (h0 : Pv 0 σ H) (hG : ∀ i σ' H', i ≤ ds.length → Pv i σ' H' → Same H H')
    (hs : ∀ i d x σ' H', i < ds.length → ds[i]? = some d → Pv i σ' H' → Dp K H' x d → g x σ' H' fun σ2 H2 => tb ⟨Pv (i + 1), R, N, Pv (i + 1)⟩ σ2 H2) (hd : ∀ σ' H', Pv ds.length σ' H' → N σ' H') : ForT (Itl K a) σ H g tb N R :=
  for_dp (D := ⟨N, R, N, N⟩) h Pv h0 hG hs hd
end
section
variable {σ σ' : L2.St} {H : Hp} {i : Nat} {v x : V} {B C : L2.St → Hp → Prop} {N : L2.St → Hp → Prop} {R : VK} {te : TE}
theorem L_gnameE {Q : L2.St → Hp → Prop} (e : σ.set i (some v) = σ') (h : Q σ' H) : gName i v σ H Q := by subst e; exact h
end
section
variable {K : PySem.W.Frag} {H H' : Hp} {σ : L2.St} {Q : VK} {te : TE} {tl th : TO}
theorem TyX_same {v : V} {t : Value} (e : Same H H') (h : TyX K H v t) : TyX K H' v t := by
  cases h with
  | base h =>
    refine .base ?_
    cases h with
    | non => exact .non
    | bl x => exact .bl x
    | int x => exact .int x
    | str x => exact .str x
    | flt x => exact .flt x
    | lst h => exact .lst (e _ _ h)
    | frz h => exact .frz (e _ _ h)
    | tup h => exact .tup (e _ _ h)
    | dK h => exact .dK (e _ _ h)
    | dT h => exact .dT (e _ _ h)
    | ins h cl ha hn htk hm => exact .ins (e _ _ h) cl ha hn htk hm
  | byt b => exact .byt b
  | set h => exact .set (e _ _ h)
  | kList h c => exact .kList h c
  | kTuple h c => exact .kTuple h c
  | kDict h c => exact .kDict h c
  | fTuple h => exact .fTuple (e _ _ h)
  | fDict h => exact .fDict (e _ _ h)
theorem NotW.same {v : V} (h : NotW K H v) (e : Same H H') : NotW K H' v := by
  rcases h with h | ⟨a, h1, h2⟩
  · exact .inl h
  · exact .inr ⟨a, TyX_same e h1, h2⟩
theorem BadW.same {v : V} {lo hi : Int} (h : BadW K H v lo hi) (e : Same H H') : BadW K H' v lo hi := by
  rcases h with h | h
  · exact .inl (h.same e)
  · exact .inr h
theorem L_sl {r : V → Option Int → Option Int → Hp → VK → Prop} (h : te σ H fun x H1 => tl σ H1 fun l H2 => th σ H2 fun u H3 => r x l u H3 Q) : L2.tSl r te tl th σ H Q := h
theorem L_noPart {R : Option Int → Hp → Prop} (h : R none H) : tNoPart σ H R := h
theorem L_part {t : TE} {R : Option Int → Hp → Prop} (h : t σ H fun x H1 => ∃ i, x = .int i ∧ R (some i) H1) : tPart t σ H R := h
theorem L_ki {i : Int} {R : Int → Prop} (h : R i) : ∃ j, V.int i = V.int j ∧ R j := ⟨i, rfl, h⟩
theorem L_slL {a : Addr} {xs : List V} {lo hi : Option Int} (h : SqL K H a xs) (q : ∀ p, H p = none → Q (.ref p) (upd H p (.lst (cutV xs lo hi)))) : rSlL K (.ref a) lo hi H Q := ⟨a, xs, rfl, h, q⟩
end
def cutG {α : Type} (xs : List α) (lo hi : Option Int) : List α := (xs.drop (HT.sIx xs.length 0 lo)).take (HT.sIx xs.length xs.length hi - HT.sIx xs.length 0 lo)
theorem cutV_map {α : Type} (f : α → V) (xs : List α) (lo hi : Option Int) : cutV (xs.map f) lo hi = (cutG xs lo hi).map f := by
  unfold cutV cutG
  rw [List.length_map, List.map_take, List.map_drop]
theorem cutG_mem {α : Type} {xs : List α} {lo hi : Option Int} {x : α} (h : x ∈ cutG xs lo hi) : x ∈ xs := List.mem_of_mem_drop (List.mem_of_mem_take h)
theorem cutG_len {α : Type} (xs : List α) (lo hi : Option Int) : (cutG xs lo hi).length ≤ xs.length := by
  unfold cutG
  rw [List.length_take, List.length_drop]
  omega
section
variable {K : PySem.W.Frag} {H : Hp} {Q : VK}
/-- one of some things -/
theorem L_menuV {xs : List V} {p : Addr} {i : Int} (h : SqL K H p xs) (h0 : 0 ≤ i) (h1 : i < xs.length) (q : ∀ v ∈ xs, Q v H) : rIx K (.ref p) (.int i) H Q := by
  have hl : i.toNat < xs.length := by omega
  exact L_ixL h (atI_int h0 (List.getElem?_eq_getElem hl)) (q _ (List.getElem_mem hl))
end
theorem hpL {K : PySem.W.Frag} {H : Hp} {a : Addr} {xs : List V} (h : H a = some (.lst xs)) : SqL K H a xs := .of h
theorem hpT {K : PySem.W.Frag} {H : Hp} {a : Addr} {xs : List V} (h : H a = some (.tup xs)) : SqT K H a xs := .of h
theorem bd_mod {x n : Int} (h : 0 < n ∧ n < 18446744073709551616) : Bd 64 (x % n) := bd_64 (by
  have h1 := Int.emod_nonneg x (show n ≠ 0 by omega)
  have h2 := Int.emod_lt_of_pos x h.1
  omega)
theorem hp_from {H0 H : Hp} {p : Addr} {o : HO} (h : H0 p = some o) (e : Same H0 H) : H p = some o := e _ _ h
theorem same_via {H H1 H2 : Hp} (b : Same H1 H2) (a : Same H H1) : Same H H2 := a.trans b
theorem same_upd' {H H' : Hp} {a : Addr} {o : HO} (h : H' a = none) (e : Same H H') : Same H (upd H' a o) := same_upd e h
theorem same_mut' {H H' : Hp} {a : Addr} {o : HO} (h : H a = none) (e : Same H H') : Same H (upd H' a o) := same_mut e h
section
variable {K : PySem.W.Frag} {H : Hp} {σ : L2.St} {Q : VK}
theorem L_clear {a : Addr} {xs : List V} (h : H a = some (.lst xs)) (q : Q .non (upd H a (.lst []))) : rClear (.ref a) [] H Q := ⟨a, xs, rfl, rfl, h, q⟩
theorem L_dnew (h : ∀ p, H p = none → Q (.ref p) (upd H p (.dK []))) : tDNewK σ H Q := h
/-- no list -/
def NotL (K : PySem.W.Frag) (H : Hp) (v : V) : Prop := ∃ a, TyX K H v (.type a) ∧ kitB a "list" = some false
theorem notl_tup {a : Addr} {xs : List V} (h : SqT K H a xs) : NotL K H (.ref a) := ⟨_, tyx_T h, by decide +kernel⟩
theorem notl_non : NotL K H .non := ⟨_, .base .non, by decide +kernel⟩
theorem notl_int {i : Int} : NotL K H (.int i) := ⟨_, .base (.int i), by decide +kernel⟩
theorem notl_bl {i : Bool} : NotL K H (.bl i) := ⟨_, .base (.bl i), by decide +kernel⟩
theorem notl_str {i : Str} : NotL K H (.str i) := ⟨_, .base (.str i), by decide +kernel⟩
theorem notl_dK {a : Addr} {xs : List (Key × V)} (h : H a = some (.dK xs)) : NotL K H (.ref a) := ⟨_, .base (.dK h), by decide +kernel⟩
theorem NotL.same {H' : Hp} {v : V} (h : NotL K H v) (e : Same H H') : NotL K H' v := by
  obtain ⟨a, h1, h2⟩ := h
  exact ⟨a, TyX_same e h1, h2⟩
end
theorem rep1 (x : Int) : ∀ n : Nat, (List.replicate n [V.int x]).flatten = (List.replicate n x).map V.int
  | 0 => rfl
  | n + 1 => by rw [List.replicate_succ, List.flatten_cons, rep1 x n]; rfl
section
variable {K : PySem.W.Frag} {H : Hp} {Q : VK}
theorem L_neB {i j : Bool} (q : Q (.bl (!decide (i = j))) H) : aNe K (.bl i) (.bl j) H Q := .inl ⟨rfl, by rw [show decide (V.bl i = V.bl j) = decide (i = j) by simp]; exact q⟩
end
/-! ### for x in xs: check(x) -/
section
variable {K : PySem.W.Frag} {σ : L2.St} {H : Hp} {N : L2.St → Hp → Prop} {R : VK} {a : Addr} {xs : List V} {sp : Sp} {ES : L2.St → XK} {i : Nat} {c : Value}
theorem set_self (σ : L2.St) (i : Nat) (hi : i < σ.length) : ∃ v, σ = σ.set i v := ⟨σ[i], by simp⟩
theorem L_forChk (hL : SqL K H a xs) (hi : i < σ.length) (hok : ∀ x ∈ xs, ∀ Q E, Q .non H → sp [x] H Q E) (q : ∀ v, N (σ.set i v) H) : ForT (Itl K a) σ H (gName i) (tDrop (tCallS sp ES (tCons (tVar i) tNil))) N R := by
  refine f_it walk_list (fun _ σ' H' => H' = H ∧ ∃ v, σ' = σ.set i v) ⟨rfl, set_self σ i hi⟩ (fun _ _ _ _ p => p.1 ▸ hL) ?_ ?_
  · rintro j x σ' H' H'' hj ⟨rfl, v, rfl⟩ ⟨rfl, e⟩
    refine L_gname (L_drop (L_callS (L_cons (L_var (v := x) ?_ (L_nil (hok x (List.mem_of_getElem? e) _ _ ?_))))))
    · simp [hi]
    · exact ⟨rfl, some x, by rw [List.set_set]⟩
  · rintro σ' H' ⟨rfl, v, rfl⟩
    exact q v
theorem L_forChkX (hL : SqL K H a xs) (hi : i < σ.length) (hx : ∀ x ∈ xs, (∀ Q E, Q .non H → sp [x] H Q E) ∨ ∀ Q E, E c none H → sp [x] H Q E) (hb : ∃ x ∈ xs, ∀ Q E, E c none H → sp [x] H Q E) (q : ∀ v, ES (σ.set i v) c none H) :
    ForT (Itl K a) σ H (gName i) (tDrop (tCallS sp ES (tCons (tVar i) tNil))) N R := by
  obtain ⟨x0, hx0, hb0⟩ := hb
  obtain ⟨j0, hj0⟩ := List.mem_iff_getElem?.mp hx0
  refine f_it walk_list (fun j σ' H' => H' = H ∧ (∃ v, σ' = σ.set i v) ∧ ∃ k x, j ≤ k ∧ xs[k]? = some x ∧ ∀ Q E, E c none H → sp [x] H Q E) ⟨rfl, set_self σ i hi, j0, x0, Nat.zero_le _, hj0, hb0⟩ (fun _ _ _ _ p => p.1 ▸ hL) ?_ ?_
  · rintro j x σ' H' H'' hj ⟨rfl, ⟨v, rfl⟩, k, y, hk, hy, hby⟩ ⟨rfl, e⟩
    refine L_gname (L_drop (L_callS (L_cons (L_var (v := x) ?_ (L_nil ?_)))))
    · simp [hi]
    · by_cases hc : ∀ Q E, E c none H'' → sp [x] H'' Q E
      · exact hc _ _ (by rw [List.set_set]; exact q _)
      · refine (hx x (List.mem_of_getElem? e)).resolve_right hc _ _ ⟨rfl, ⟨some x, by rw [List.set_set]⟩, k, y, ?_, hy, hby⟩
        rcases Nat.lt_or_eq_of_le hk with hlt | rfl
        · exact hlt
        · rw [e] at hy
          cases hy
          exact absurd hby hc
  · rintro σ' H' ⟨rfl, ⟨v, rfl⟩, k, y, hk, hy, hby⟩
    have := (List.getElem?_eq_some_iff.mp hy).1
    omega
end
theorem L_bm0 {K : PySem.W.Frag} {σ : L2.St} {H : Hp} {Q : VK} {te : TE} {T : String} {r : V → List V → Hp → VK → Prop} (h : te σ H fun x H1 => tyV K T x H1 ∧ r x [] H1 Q) : tBM0 K T r te σ H Q := h
/-- what an expression's ways have in common -/
theorem L_via {P : VK → Prop} {Q : VK} (R : V → Hp → Prop) (key : ∀ Q : VK, (∀ v H', R v H' → Q v H') → P Q) (q : ∀ v H', R v H' → Q v H') : P Q := key Q q
section
variable {K : PySem.W.Frag} {H : Hp} {σ : L2.St} {Q : VK} {ta tb : TE}
theorem L_disp1 (h : ∀ p, H p = none → ta σ (upd H p (.dK [])) fun k H1 => tb σ H1 fun v H2 => H2 p = some (.dK []) ∧ ∃ kvs : List (Key × V), [(k, v)] = kvs.map (fun kv => (kV kv.1, kv.2)) ∧ kvs.length ≤ 15 ∧ Q (.ref p) (upd H2 p (.dK (mergeK [] kvs)))) : tDisp [(ta, tb)] σ H Q := h
theorem L_dispE1 {p : Addr} {k v : V} (kk : Key) (e : k = kV kk) (h : H p = some (.dK [])) (q : Q (.ref p) (upd H p (.dK [(kk, v)]))) : H p = some (.dK []) ∧ ∃ kvs : List (Key × V), [(k, v)] = kvs.map (fun kv => (kV kv.1, kv.2)) ∧ kvs.length ≤ 15 ∧ Q (.ref p) (upd H p (.dK (mergeK [] kvs))) :=
  ⟨h, [(kk, v)], by rw [e]; rfl, by simp, q⟩
/-- a sign of a text -/
theorem L_ixSany {z : Str} {i : Int} (hz : z.length ≤ 1000000) (h0 : 0 ≤ i) (h1 : i < z.length) (q : ∀ a ∈ z.cps.toList, Q (.str ⟨#[a]⟩) H) : rIx K (.str z) (.int i) H Q := by
  have hl : i.toNat < z.cps.toList.length := by
    have e : z.cps.toList.length = z.length := by rw [Array.length_toList]; rfl
    omega
  have h3 : z.cps.toList[i.toNat]? = some z.cps.toList[i.toNat] := List.getElem?_eq_getElem hl
  refine L_ixS (sz_dec hz) (a := z.cps.toList[i.toNat]) ?_ (q _ (List.getElem_mem hl))
  obtain ⟨j, rfl⟩ : ∃ j : Nat, i = (j : Int) := ⟨i.toNat, by omega⟩
  exact atI_nat h3
theorem L_inR {i lo hi : Int} {a : Addr} (h : H a = some (.rng lo hi)) (q : Q (.bl (decide (lo ≤ i ∧ i < hi))) H) : (∃ i' a' lo hi, V.int i = V.int i' ∧ V.ref a = V.ref a' ∧ H a' = some (.rng lo hi) ∧ Q (.bl (decide (lo ≤ i' ∧ i' < hi))) H) := ⟨i, a, lo, hi, rfl, rfl, h, q⟩
theorem L_rng2 {i j : Int} (q : ∀ p, H p = none → Q (.ref p) (upd H p (.rng i j))) : (∃ i' j', [V.int i, V.int j] = [V.int i', V.int j'] ∧ ∀ p, H p = none → Q (.ref p) (upd H p (.rng i' j'))) := ⟨i, j, rfl, q⟩
/-- no text -/
def NotS (K : PySem.W.Frag) (H : Hp) (v : V) : Prop := ∃ a, TyX K H v (.type a) ∧ kitB a "str" = some false
theorem nots_tup {a : Addr} {xs : List V} (h : SqT K H a xs) : NotS K H (.ref a) := ⟨_, tyx_T h, by decide +kernel⟩
theorem nots_lst {a : Addr} {xs : List V} (h : SqL K H a xs) : NotS K H (.ref a) := ⟨_, tyx_L h, by decide +kernel⟩
theorem nots_non : NotS K H .non := ⟨_, .base .non, by decide +kernel⟩
theorem nots_int {i : Int} : NotS K H (.int i) := ⟨_, .base (.int i), by decide +kernel⟩
theorem nots_bl {i : Bool} : NotS K H (.bl i) := ⟨_, .base (.bl i), by decide +kernel⟩
theorem nots_dK {a : Addr} {xs : List (Key × V)} (h : H a = some (.dK xs)) : NotS K H (.ref a) := ⟨_, .base (.dK h), by decide +kernel⟩
theorem NotS.same {H' : Hp} {v : V} (h : NotS K H v) (e : Same H H') : NotS K H' v := by
  obtain ⟨a, h1, h2⟩ := h
  exact ⟨a, TyX_same e h1, h2⟩
end
theorem len1 (a : Nat) : (⟨#[a]⟩ : Str).length = 1 := rfl
theorem str_len_append (a b : Str) : (a ++ b).length = a.length + b.length := Array.size_append
theorem str_len {z : Str} : z.cps.toList.length = z.length := by rw [Array.length_toList]; rfl
theorem one_lt {c d : Nat} : ([c] : List Nat) < [d] ↔ c < d := by
  rw [List.cons_lt_cons_iff]
  constructor
  · rintro (h | ⟨_, h⟩)
    · exact h
    · exact absurd h (List.not_lt_nil _)
  · exact .inl
theorem str_app_list (a b : Str) : (a ++ b).cps.toList = a.cps.toList ++ b.cps.toList := Array.toList_append
theorem eqv_nil {ds : List PyData} : PyData.eqv (.list ds) (.list []) = ds.isEmpty := by
  cases ds <;> simp [PyData.eqv, PyData.eqvAll]
theorem strOk_of {z : Str} (h : ∀ c ∈ z.cps.toList, c < 1114112) : PyData.strOk z = true := by
  show (z.cps.all (· < 0x110000)) = true
  rw [← Array.all_toList, List.all_eq_true]
  intro c hc
  exact decide_eq_true (h c hc)
theorem L_nnT {A B : Prop} (a : A) : if (!!true) = true then A else B := L_T a
theorem L_nnF {A B : Prop} (b : B) : if (!!false) = true then A else B := L_F b
theorem bd_128 {i : Int} (h : -340282366920938463463374607431768211456 < i ∧ i < 340282366920938463463374607431768211456) : Bd 128 i := by
  unfold Bd
  have : (2 : Nat) ^ 128 = 340282366920938463463374607431768211456 := by decide
  omega
/-! ### an exception that was caught, held by a name beyond the clause -/
/-- an exception of the class cls at a, its own dict d -/
def ExI (cls : Value) (d : Option Addr) (a : Addr) : HO := .ext fun h => ∃ (oe : Obj) (vs : Array Value), h.get? a = some oe ∧ Zc cls d oe ∧ oe.data = .fields vs
section
variable {X : Cx} {pins : List (Addr × Obj)} {σ : L2.St} {H : Hp} {s : Shared}
theorem track {a : Addr} {d : Option Addr} {cls : Value} {oe : Obj} {vs : Array Value} (I : Inv X pins σ H s) (na : H a = none) (he : s.heap.get? a = some oe) (z : Zc cls d oe) (hd : oe.data = .fields vs) (n0 : X.s_0.heap.get? a = none)
    (nL : a ≠ X.env.locals) (np : ∀ p ∈ X.pn ++ pins, p.1 ≠ a) : Inv X pins σ (upd H a (ExI cls d a)) s where
  ok := I.ok
  os := I.os
  bare := I.bare
  base := {
    keep := I.base.keep
    slot := I.base.slot
    free := fun b o e n hx => by
      rw [upd_ne (fun z => by rw [z, n0] at e; cases e)]
      exact I.base.free b o e n hx
    there := I.base.there
    tups := fun b xs q => by
      have t := I.base.tups b xs q
      rw [upd_ne (ne_of_none t na)]; exact t
    frzs := fun b o u q => by
      have t := I.base.frzs b o u q
      rw [upd_ne (ne_of_none t na)]; exact t
    tbls := fun b ps q => by
      obtain ⟨more, t⟩ := I.base.tbls b ps q
      exact ⟨more, by rw [upd_ne (ne_of_none t na)]; exact t⟩ }
  loc := I.loc
  cell := I.cell
  free := by rw [upd_ne nL.symm]; exact I.free
  freeC := fun x c e => by
    obtain ⟨v, o, ho, hc⟩ := I.cell x c e
    rw [upd_ne (fun z => by rw [z, he] at ho; cases ho; rw [hd] at hc; cases hc)]
    exact I.freeC x c e
  pin := fun p hp => by
    obtain ⟨h1, h2, h3⟩ := I.pin p hp
    exact ⟨h1, by rw [upd_ne (np p hp)]; exact h2, h3⟩
  hok := fun b o e => by
    by_cases hb : b = a
    · cases hb
      rw [upd_same] at e
      cases e
      exact ⟨⟨oe, vs, he, z, hd⟩, ⟨oe, he⟩, fun _ _ ⟨o1, v1, q, r⟩ k => ⟨o1, v1, k o1 q, r⟩⟩
    · rw [upd_ne hb] at e
      exact (I.hok b o e).stay (fun _ _ _ q => q) (fun c q => by rw [upd_ne (ne_of_none q na)]; exact q) fun c xs q => by rw [upd_ne (ne_of_none q na)]; exact q
  len := I.len
end
/-- what 'except x as n' wishes of an exception, which is tracked behind the suite -/
def wAsT (K : PySem.W.Frag) (c : Value) (i : Nat) (ts : Addr → Value → Option Addr → TS) (Wout : WX) (D : Ends) : WX := fun cls d σ H =>
  ∃ b, PySem.W.exmOne K cls c = some b ∧
    (b = true → ∀ a, H a = none → ts a cls d ⟨fun σ' H' => H' a = none → D.nx (σ'.set i none) (upd H' a (ExI cls d a)), D.rt, fun σ' H' => D.bk (σ'.set i none) H', fun σ' H' => D.ct (σ'.set i none) H'⟩ (σ.set i (some (.ref a))) H) ∧
    (b = false → Wout cls d σ H)
section
variable {X : Cx} {x n : Str} {c : Value} {i : Nat} {body suite : List Stmt} {b₀ : Stmt} {np pos pos' : Pos} {tb : WX → TS} {ts : Addr → Value → Option Addr → TS} {Wout : WX}
theorem ps_try_asT (hs : X.stack = X.env :: X.outer) (hf : X.env.frame = some X.env.locals) (hN : X.N.Nodup) (hi : X.N[i]? = some n) (hln : X.env.kindOf n = some .local) (hex : X.ex = []) (hc : Names X x c) (tk : Takes X Wout)
    (hb : ∀ (W : WX) (pn : List (Addr × Obj)) (xe : Value → Shared → Prop), Takes (X.tr pn xe) W → PassesOwn (model X.prog X.w) X.A X.env xe → PSs (X.tr pn xe) body (tb W))
    (hsu : ∀ (a : Addr) (oe : Obj) (cls : Value) (d : Option Addr) (pn : List (Addr × Obj)), Zc cls d oe → (∃ vs, oe.data = .fields vs) → PSs (X.suite a ((a, oe) :: pn)) (b₀ :: suite) (ts a cls d)) :
    PS X (.Try body [.ExceptHandler (some (.Name x np)) (some n) (b₀ :: suite) pos'] [] [] pos) (fun D σ H => tb (wAsT X.K c i ts Wout D) D σ H) := by
  constructor
  intro pins s0 σ0 H0 D I0 start
  have okX := I0.ok
  have frames : X.A.frames = some (X.env :: X.outer) := by
    rw [okX.frames, hs]
  apply wpAny_Try_except
  -- what is raised in the body is looked at by the clause
  let look : Value → Shared → Prop := fun e t1 => wpAny (model X.prog X.w) X.A (noteFrame e X.env) (fun _ t2 => wpAny (model X.prog X.w) X.A (setFlight e none)
    (fun _ t3 => wpAny (model X.prog X.w) X.A (handleBy e X.env [.ExceptHandler (some (.Name x np)) (some n) (b₀ :: suite) pos']) (SP X pins D) X.xe t3) X.xe t2) X.xe t1
  have caught : Takes (X.tr (X.pn ++ pins) look) (wAsT X.K c i ts Wout D) := by
    intro u s' air
    obtain ⟨a, B, sI, pins', σ', H', cls, d, rfl, K', nb, up, sky, na, os, ag, b, exm, yes, no⟩ := air
    have K0 : Inv X pins σ' H' sI := K'.ofTry okX
    have sky1 : Sky B (X.env :: X.outer) a (Zc cls d) X.env.locals s'.heap := hs ▸ sky
    show wpAny (model X.prog X.w) X.A (noteFrame (.ref a) X.env) _ _ _
    apply Sky.land Zc.steady frames hf sky1
    intro h3 fl3 up3
    have J3 : Inv X pins σ' H' { s' with heap := h3 } := K0.landed nb fl3.1 (up.trans up3) os ag
    obtain ⟨oe3, vs3, at3, z3, data3⟩ := fl3.there
    have offFrames : a ∉ frs (X.env :: X.outer) := fun hm => by
      obtain ⟨_, o', there', hnf⟩ := fl3.2.2.1.mem hm
      rw [at3] at there'
      cases there'
      exact hnf _ data3
    have nL : a ≠ X.env.locals := fun e => offFrames (List.mem_filterMap.mpr ⟨X.env, List.mem_cons_self, by rw [hf, e]⟩)
    have nF : a ∉ X.fs := fun hm => by
      obtain ⟨e, he, q⟩ := List.mem_filterMap.mp hm
      exact offFrames (List.mem_filterMap.mpr ⟨e, List.mem_cons_of_mem _ he, q⟩)
    -- a is new: it stood neither at the try's entry nor at the def's
    have newB : B.get? a = none := fl3.2.1
    have newI : sI.heap.get? a = none := by
      cases q : sI.heap.get? a with
      | none => rfl
      | some o =>
        have := nb a o q (by rw [hs]; exact offFrames)
        rw [newB] at this
        cases this
    have new0 : X.s_0.heap.get? a = none := by
      cases q : X.s_0.heap.get? a with
      | none => rfl
      | some o =>
        obtain ⟨o', q'⟩ := K0.base.there a o q (by rw [hex]; exact List.not_mem_nil)
        rw [newI] at q'
        cases q'
    have apart : ∀ p ∈ X.pn ++ pins, p.1 ≠ a := fun p hp e => by
      have := (K0.pin p hp).1
      rw [e, newI] at this
      cases this
    have S3 := J3.suite at3 data3 na nL nF
    apply wpAny_handleBy_cons _ (by intro q; cases q)
    apply codeAny_handlers_test
    have tyA : PySem.W.Looks (model X.prog X.w) h3 (typeOf (.ref a)) cls := fun A Q E t k q => wpAny_typeOf_ref (k _ _ at3) (by rw [z3.1]; exact q)
    have matched := PySem.W.exm_one (M := model X.prog X.w) (J3.kIn) tyA exm
    have named : ∀ {Q : Value → Shared → Prop} {E : Value → Shared → Prop}, Q c { s' with heap := h3 } → wpAny (model X.prog X.w) (X.A.mark (some (.ref a))) (eval (.Name x np) X.env) Q E { s' with heap := h3 } := by
      intro Q E q
      obtain ⟨hg, hdbg, hm⟩ := hc
      rcases hm with hm | ⟨hm, hv, hnn⟩
      · exact ld_glob (X := X.suite a ((a, oe3) :: (X.pn ++ pins))) S3 hg hm q hdbg
      · exact ld_blt (X := X.suite a ((a, oe3) :: (X.pn ++ pins))) S3 hg hm hv q hnn hdbg
    apply named
    apply matched.here
    cases b with
    | true =>
      apply codeAny_handlers_suite_as
      apply HandSPX.lands_againZ fl3
      intro h4 fl4 up4
      have J4 : Inv X pins σ' H' { s' with heap := h4 } := K0.landed nb fl4.1 ((up.trans up3).trans up4) os ag
      obtain ⟨oe4, vs4, at4, z4, data4⟩ := fl4.there
      have S4 := J4.suite at4 data4 na nL nF
      refine store_ok (X := X.suite a ((a, oe4) :: (X.pn ++ pins))) (v := .ref a) S4 hN hi (.inl hln) rfl (fun s5 S5 => ?_) (.inr hln)
      refine wpAny_mono ((hsu a oe4 cls d (X.pn ++ pins) z4 ⟨_, data4⟩).run [] s5 _ H' _ S5 (yes rfl a na)) (fun f s6 hsp => ?_) (fun _ _ z => z.elim)
      -- out of the suite, the exception still pinned
      have out : ∀ {σ6 : L2.St} {H6 : Hp} {Q : Shared → Prop}, Inv (X.suite a ((a, oe4) :: (X.pn ++ pins))) [] σ6 H6 s6 → (∀ s7, Inv X pins (σ6.set i none) H6 s7 → H6 a = none → s7.heap.get? a = some oe4 → Q s7) →
          wpAny (model X.prog X.w) X.A (do bindName X.env n .none; unbindBehindTheSuite X.env n pos') (fun _ s7 => Q s7) X.xe s6 := fun {σ6 H6 Q} S6 hq => by
        have P6 : Inv X ((a, oe4) :: pins) σ6 H6 s6 := { S6.unsuite okX with
          pin := fun p hp => S6.pin p (by
            rcases List.mem_append.mp hp with hp | hp
            · exact List.mem_append_left _ (List.mem_cons_of_mem _ (List.mem_append_left _ hp))
            · rcases List.mem_cons.mp hp with e | hp
              · rw [e]; exact List.mem_append_left _ List.mem_cons_self
              · exact List.mem_append_left _ (List.mem_cons_of_mem _ (List.mem_append_right _ hp))) }
        refine gone_ok P6 hN hi hln fun s7 P7 => ?_
        have pinned := P7.pin (a, oe4) (List.mem_append_right _ List.mem_cons_self)
        refine hq s7 { P7 with pin := fun p hp => P7.pin p ?_ } pinned.2.1 pinned.1
        rcases List.mem_append.mp hp with hp | hp
        · exact List.mem_append_left _ hp
        · exact List.mem_append_right _ (List.mem_cons_of_mem _ hp)
      match f, hsp with
      | .next, ⟨σ6, H6, S6, q6⟩ => exact out S6 fun s7 J7 n6 a6 => ⟨_, _, track J7 n6 a6 z4 data4 new0 nL apart, q6 n6⟩
      | .brk, ⟨σ6, H6, S6, q6⟩ => exact out S6 fun s7 J7 _ _ => ⟨_, _, J7, q6⟩
      | .cont, ⟨σ6, H6, S6, q6⟩ => exact out S6 fun s7 J7 _ _ => ⟨_, _, J7, q6⟩
      | .ret u, ⟨v6, σ6, H6, S6, r6, q6⟩ => exact out S6 fun s7 J7 _ _ => ⟨_, _, _, J7, r6, q6⟩
    | false =>
      show wpAny _ X.A (handleBy (.ref a) X.env []) _ _ _
      apply wpAny_handleBy_nil
      obtain ⟨_, _, _, oe, vs, T, oT, ts', he, hz, hd, h1, hr⟩ := id fl3
      unfold PySem.passOn
      refine wpAny_bind (wpAny_field he hd h1 ?_)
      rw [if_neg (show ¬ ((Value.ref T == Value.none) = true) from by simp)]
      have on : wpAny (model X.prog X.w) X.A (setFlight (.ref a) X.env.frame) (fun _ s4 => wpAny (model X.prog X.w) X.A (throw (.ref a) : Sem Flow) (SP X pins D) X.xe s4) X.xe { s' with heap := h3 } := by
        rw [hf]
        apply HandSPX.setFlight_upZ fl3
        intro h4 held4 up4
        apply wpAny_throw
        apply tk
        exact ⟨a, B, sI, pins, σ', H', cls, d, rfl, K0, nb, (up.trans up3).trans up4, .inr (.inr (by rw [hs]; exact held4)), na, os, ag, no rfl⟩
      first
        | exact wpAny_bind (wpAny_pure (wpAny_bind on))
        | exact wpAny_bind on
  refine wpAny_mono ((hb (wAsT X.K c i ts Wout D) (X.pn ++ pins) look caught PassesOwn.looking).run [] s0 σ0 H0 D (I0.toTry _) start) (fun f s1 hsp => ?_) (fun e s1 he => he)
  match f, hsp with
  | .next, ⟨σ1, H1, J1, q⟩ => exact wpAny_execs_nil ⟨σ1, H1, J1.ofTry okX, q⟩
  | .brk, ⟨σ1, H1, J1, q⟩ => exact ⟨σ1, H1, J1.ofTry okX, q⟩
  | .cont, ⟨σ1, H1, J1, q⟩ => exact ⟨σ1, H1, J1.ofTry okX, q⟩
  | .ret u, ⟨v, σ1, H1, J1, r, q⟩ => exact ⟨v, σ1, H1, J1.ofTry okX, r, q⟩
end
/-- isinstance of a caught exception that a name holds -/
def rIsX (K : PySem.W.Frag) : List V → Hp → VK → Prop := fun xs H Q => ∃ (a D : Addr) (c : V) (u : Value) (b : Bool), xs = [.ref a, c] ∧ H a = some (ExI (.ref D) none a) ∧ L2.ExcC K D ∧ ClsV c u ∧ PySem.W.kitOne K (.ref D) u = some b ∧ Q (.bl b) H
def rIsXT (K : PySem.W.Frag) : List V → Hp → VK → Prop := fun xs H Q => ∃ (a D tp : Addr) (cs : List V) (us : List Value) (b : Bool), xs = [.ref a, .ref tp] ∧ H a = some (ExI (.ref D) none a) ∧ L2.ExcC K D ∧ H tp = some (.tup cs) ∧ Paired ClsV cs us ∧ PySem.W.kitAny K (.ref D) us = some b ∧ Q (.bl b) H
section
variable {X : Cx} {pins : List (Addr × Obj)} {σ : L2.St} {H : Hp} {s : Shared}
theorem exI_at {a D : Addr} (I : Inv X pins σ H s) (h : H a = some (ExI (.ref D) none a)) : ∃ oe, PySem.W.InstAt s.heap a oe D none := by
  obtain ⟨⟨oe, vs, q1, ⟨q2, q3⟩, q4⟩, _⟩ := I.hok a _ h
  obtain ⟨oc, od, oda, osl⟩ := oe
  dsimp only at q2 q3 q4
  subst q2 q3 q4
  exact ⟨_, q1, rfl, rfl, trivial⟩
theorem call_isX : CallR X (.builtin "isinstance") (rIsX X.K) := by
  intro pins s σ H xs us Q I r h
  obtain ⟨a, D, c, u, b, rfl, hx, C, k, e, q⟩ := h
  obtain ⟨u1, u2, rfl, r1, r2⟩ := vals2 r
  cases r1
  cases k.eq r2
  obtain ⟨oe, J⟩ := exI_at I hx
  exact PySem.W.kia_one (PySem.W.handS_kitx_exc C.hg C.hk C.hs C.hd C.ha C.hn C.ht C.hm) I.kIn J e (fun z => nomatch z) fun tk => ⟨.bl b, H, I.tok tk, rfl, q⟩
theorem call_isXT : CallR X (.builtin "isinstance") (rIsXT X.K) := by
  intro pins s σ H xs us Q I r h
  obtain ⟨a, D, tp, cs, ws, b, rfl, hx, C, hT, k, e, q⟩ := h
  obtain ⟨u1, u2, rfl, r1, r2⟩ := vals2 r
  cases r1
  cases (show u2 = Value.ref tp from r2)
  obtain ⟨oe, J⟩ := exI_at I hx
  obtain ⟨_, its, rv, o, h1, h2, n, h3⟩ := (show ObjOk X.prog X.w H s.heap tp (.tup cs) from I.hok tp _ hT)
  have e3 := ClsV.all k rv
  subst e3
  obtain ⟨oc, od, dt, sl⟩ := o
  simp only at h2 h3
  subst h2 h3
  exact PySem.W.kia_tup (PySem.W.handS_kitx_exc C.hg C.hk C.hs C.hd C.ha C.hn C.ht C.hm) I.kIn J h1 e (fun z => nomatch z) fun tk => ⟨.bl b, H, I.tok tk, rfl, q⟩
end
section
variable {K : PySem.W.Frag} {H : Hp} {Q : VK} {C D : Addr} {b : Bool}
theorem kit_ref (hD : PySem.W.subIn K (.ref D) (.ref D) = some true) (k : ExcK K C) (h : PySem.W.subIn K (.ref D) (.ref C) = some b) : PySem.W.kitOne K (.ref D) (.ref C) = some b := by
  unfold PySem.W.kitOne
  by_cases e : D = C
  · subst e
    rw [hD] at h
    cases h
    rw [if_pos (by simp)]
  · rw [if_neg (by simpa using e)]
    have h2 : (PySem.W.clsIn K C).isSome = true := k.i
    show (if ((PySem.W.clsIn K C).isSome && PySem.W.typeIn K (.ref C) == some (.type "type")) = true then PySem.W.subIn K (.ref D) (.ref C) else none) = some b
    rw [if_pos (by rw [h2, k.t]; rfl)]
    exact h
theorem kit_typ {T : String} (hm : PySem.W.kitMeta T = true) (h : PySem.W.subIn K (.ref D) (.type T) = some b) : PySem.W.kitOne K (.ref D) (.type T) = some b := by
  unfold PySem.W.kitOne
  rw [if_neg (by simp)]
  show (if PySem.W.kitMeta T = true then PySem.W.subIn K (.ref D) (.type T) else none) = some b
  rw [if_pos hm]
  exact h
theorem L_isX {a : Addr} {c : V} {u : Value} (h : H a = some (ExI (.ref D) none a)) (C : L2.ExcC K D) (k : ClsV c u) (e : PySem.W.kitOne K (.ref D) u = some b) (q : Q (.bl b) H) : rIsX K [.ref a, c] H Q := ⟨a, D, c, u, b, rfl, h, C, k, e, q⟩
theorem L_isXT {a tp : Addr} {cs : List V} {us : List Value} (h : H a = some (ExI (.ref D) none a)) (C : L2.ExcC K D) (hT : H tp = some (.tup cs)) (k : Paired ClsV cs us) (e : PySem.W.kitAny K (.ref D) us = some b) (q : Q (.bl b) H) : rIsXT K [.ref a, .ref tp] H Q := ⟨a, D, tp, cs, us, b, rfl, h, C, hT, k, e, q⟩
theorem kit_none : ∀ {us : List Value}, (∀ u ∈ us, PySem.W.kitOne K (.ref D) u = some false) → PySem.W.kitAny K (.ref D) us = some false
  | [], _ => rfl
  | u :: us, h => by
    unfold PySem.W.kitAny
    rw [h u (List.mem_cons_self ..)]
    exact kit_none fun x hx => h x (List.mem_cons_of_mem _ hx)
theorem L_asT {c : Value} {i : Nat} {ts : Addr → Value → Option Addr → TS} {Wout : WX} {D : Ends} {σ : L2.St} {cls : Value} {d : Option Addr} (h : PySem.W.exmOne K cls c = some true)
    (q : ∀ a, H a = none → ts a cls d ⟨fun σ' H' => H' a = none → D.nx (σ'.set i none) (upd H' a (ExI cls d a)), D.rt, fun σ' H' => D.bk (σ'.set i none) H', fun σ' H' => D.ct (σ'.set i none) H'⟩ (σ.set i (some (.ref a))) H) : wAsT K c i ts Wout D cls d σ H :=
  ⟨true, h, fun _ => q, fun z => nomatch z⟩
end
/-! ### lists of numbers, and what is none -/
def BadNs (K : PySem.W.Frag) (H : Hp) (v : V) (lo hi : Int) : Prop := NotL K H v ∨ ∃ a xs, v = .ref a ∧ SqL K H a xs ∧ (24 < xs.length ∨ ((∀ x ∈ xs, (∃ t, x = .int t ∧ lo ≤ t ∧ t ≤ hi) ∨ BadW K H x lo hi) ∧ ∃ x ∈ xs, BadW K H x lo hi))
def GoodNs (K : PySem.W.Frag) (H : Hp) (v : V) (ts : List Int) (lo hi : Int) : Prop := ∃ a, v = .ref a ∧ SqL K H a (ts.map V.int) ∧ ts.length ≤ 24 ∧ ∀ t ∈ ts, lo ≤ t ∧ t ≤ hi
section
variable {K : PySem.W.Frag} {H H' : Hp} {v : V} {lo hi : Int} {ts : List Int}
theorem BadNs.same (h : BadNs K H v lo hi) (e : Same H H') : BadNs K H' v lo hi := by
  rcases h with h | ⟨a, xs, h1, h2, h3⟩
  · exact .inl (h.same e)
  · refine .inr ⟨a, xs, h1, e.seq h2, ?_⟩
    rcases h3 with h3 | ⟨h3, x, h4, h5⟩
    · exact .inl h3
    · exact .inr ⟨fun x hx => (h3 x hx).imp id fun b => b.same e, x, h4, h5.same e⟩
theorem GoodNs.same (h : GoodNs K H v ts lo hi) (e : Same H H') : GoodNs K H' v ts lo hi := by
  obtain ⟨a, h1, h2, h3, h4⟩ := h
  exact ⟨a, h1, e.seq h2, h3, h4⟩
theorem bad_one {a : Addr} {x : V} (h : H a = some (.lst [x])) (b : BadW K H x lo hi) : BadNs K H (.ref a) lo hi := .inr ⟨a, _, rfl, .of h, .inr ⟨fun y hy => by rw [List.mem_singleton.mp hy]; exact .inr b, x, List.mem_singleton.mpr rfl, b⟩⟩
theorem good_ns {a : Addr} (h : H a = some (.lst (ts.map V.int))) (hl : ts.length ≤ 24) (hb : ∀ t ∈ ts, lo ≤ t ∧ t ≤ hi) : GoodNs K H (.ref a) ts lo hi := ⟨a, rfl, .of h, hl, hb⟩
theorem int_of_mem {x : V} (h : x ∈ ts.map V.int) : ∃ t ∈ ts, x = .int t := by
  obtain ⟨t, h1, h2⟩ := List.mem_map.mp h
  exact ⟨t, h1, h2.symm⟩
theorem getD_of {i : Nat} {t : Int} (h : ts[i]? = some t) : ts.getD i 0 = t := by rw [List.getD_eq_getElem?_getD, h]; rfl
theorem fm_int {f : Nat → Option Int} {n : Nat} : (List.range n).filterMap (fun i => (f i).map V.int) = ((List.range n).filterMap f).map V.int := by
  rw [List.map_filterMap]
end
/-- pairs of ints as data -/
def d2 (r : Int × Int) : PyData := .tuple [.int r.1, .int r.2]
section
variable {K : PySem.W.Frag} {H : Hp} {v : V} {us : List V} {rows : List (Int × Int)}
theorem of_d2 {r : Int × Int} (h : Dp K H v (d2 r)) : ∃ a, v = .ref a ∧ SqT K H a [.int r.1, .int r.2] := by
  obtain ⟨a, x, y, rfl, h1, h2, h3⟩ := of_t2 h
  rw [of_int h2, of_int h3] at h1
  exact ⟨a, rfl, h1⟩
theorem hit2 (hA : DpAll K H us (rows.map d2)) {i : Nat} {x : V} (hx : us[i]? = some x) : ∃ r t, rows[i]? = some r ∧ x = V.ref t ∧ SqT K H t [.int r.1, .int r.2] := by
  obtain ⟨d, h1, h2⟩ := hA.of hx
  rw [List.getElem?_map] at h1
  obtain ⟨r, h3, rfl⟩ := Option.map_eq_some_iff.mp h1
  obtain ⟨t, rfl, h4⟩ := of_d2 h2
  exact ⟨r, t, h3, rfl, h4⟩
theorem shp_d2s : SeqAt.shaped (.list (rows.map d2)) = true := (shp_lst (n := 1) (shp_map fun r _ => shp_tup (n := 0) (shp_cons shp_int (shp_cons shp_int shp_nil)))).ok
end
theorem cutG_take {α : Type} (xs : List α) (n : Nat) : cutG xs none (some (n : Int)) = xs.take n := by
  unfold cutG
  rw [HT.sIx_none, HT.sIx_nat, List.drop_zero, Nat.sub_zero]
  rcases Nat.le_total n xs.length with h | h
  · rw [Nat.min_eq_left h]
  · rw [Nat.min_eq_right h, List.take_of_length_le (Nat.le_refl _), List.take_of_length_le h]
theorem cutG_drop {α : Type} (xs : List α) (n : Nat) : cutG xs (some (n : Int)) none = xs.drop n := by
  unfold cutG
  rw [HT.sIx_none, HT.sIx_nat]
  rcases Nat.le_total n xs.length with h | h
  · rw [Nat.min_eq_left h, List.take_of_length_le (by rw [List.length_drop]; exact Nat.le_refl _)]
  · rw [Nat.min_eq_right h, List.drop_of_length_le (Nat.le_refl _), List.drop_of_length_le h, List.take_nil]
theorem strOk_lit {z : Str} (h : PyData.strOk z = true) : PyData.strOk z = true := h
theorem dpa_app {K : PySem.W.Frag} {H : Hp} : ∀ {ds es : List PyData} {vs us : List V}, DpAll K H (vs ++ us) (ds ++ es) → vs.length = ds.length → DpAll K H vs ds ∧ DpAll K H us es
  | [], _, [], _, h, _ => ⟨.nil, h⟩
  | [], _, _ :: _, _, _, e => by simp at e
  | _ :: _, _, [], _, _, e => by simp at e
  | d :: ds, _, v :: vs, _, h, e => by
    cases h with
    | cons h1 h2 =>
      obtain ⟨a, b⟩ := dpa_app h2 (by simpa using e)
      exact ⟨.cons h1 a, b⟩
theorem nn_ints_or {K : PySem.W.Frag} {H : Hp} {x : V} {ts : List Int} {lo hi : Int} (hb : ∀ t ∈ ts, lo ≤ t ∧ t ≤ hi) (h : x ∈ ts.map V.int) : (∃ t, x = .int t ∧ lo ≤ t ∧ t ≤ hi) ∨ BadW K H x lo hi := by
  obtain ⟨t, ht, e⟩ := int_of_mem h
  exact .inl ⟨t, e, hb t ht⟩
theorem rep_len {α : Type} (xs : List α) : ∀ n : Nat, (List.replicate n xs).flatten.length = n * xs.length
  | 0 => by simp
  | n + 1 => by rw [List.replicate_succ, List.flatten_cons, List.length_append, rep_len xs n, Nat.succ_mul, Nat.add_comm]
/-! ### exceptions whose own __init__ asks their base's by its name -/
/-- S.__init__, S an own class, is ValueError's -/
structure BaseI (K : PySem.W.Frag) (S : Addr) : Prop where
  rd : PySem.W.readsIn K S (.type "type") = true
  ga : PySem.W.specialIn K (.ref S) "__getattribute__" = some (some (.builtin "type.__getattribute__"))
  vi : PySem.W.findCls K (.ref S) (.type "type") "__init__" = some (.val (.builtin "ValueError.__init__"))
structure XIniAt (K : PySem.W.Frag) (C : Addr) (qual : Str) (st : Stmt) (ps : List Str) : Prop where
  ex : ∃ (f : Addr) (fd : FuncData), Fun K "__init__" qual st f fd ∧ PySem.W.findIn K (.ref C) "__init__" = some (some (.ref f)) ∧ PySem.W.isFn K (.ref f) = true ∧ Binds K fd ps []
/-- an exception that may be made by its class's name -/
structure XMak (P : Program) (w : World) (K : PySem.W.Frag) (mg : Str → Option Value) (base : Heap) (k : Nat) (x : Str) (C : Addr) (sp : Sp) : Prop where
  ex : ∃ (f : Addr) (fd : FuncData) (ps : List Str), FnOk P w K mg base CX0 k f fd ps sp ∧ PySem.W.findIn K (.ref C) "__init__" = some (some (.ref f)) ∧ PySem.W.typeIn K (.ref f) = some (.type "function") ∧ mg x = some (.ref C) ∧ Binds K fd ps []
section
variable {P : Program} {w : World} {K : PySem.W.Frag} {mg : Str → Option Value} {base : Heap}
theorem XIniAt.xmak {x : Str} {C : Addr} {qual : Str} {st : Stmt} {N ps : List Str} {k : Nat} {sp : Sp} (hx : mg x = some (.ref C)) (d : XIniAt K C qual st ps) (S : FnScope N ps (defScope st)) (len : ∀ vs H Q E, sp vs H Q E → vs.length = ps.length)
    (hbody : ∀ (f : Addr) (cdv : Value) (A : Around) (outer : List Env) (s : Shared) (H : Hp) (vs : List V) (Q : VK) (E : XK), Room k (A.deeper (envOfC qual (defScope st) s.heap.objs.size f cdv)) → sp vs H Q E →
      ∃ t, PSs (cxOf CX0 P w K mg base N qual (defScope st) f cdv A outer s H E).nox (defBody st) t ∧ t { nx := fun _ H' => Q .non H', rt := Q } (start N vs) H) : XMak P w K mg base (k + 1) x C sp := by
  obtain ⟨f, fd, F, h1, h2, b⟩ := d.ex
  exact ⟨f, fd, ps, F.ok S len (hbody f), h1, beq_iff_eq.mp h2, hx, b⟩
end
section
variable {X : Cx} {k j : Nat} {C S : Addr} {x : Str} {sp : Sp} {p p1 p2 pos : Pos} {e : Expr} {es : List Expr} {ta : TA}
theorem pmk_x (c : XMak X.prog X.w X.K X.mg X.base k x C sp) (T : OexC X.K C) (hr : Room j X.A) (hk : k + 1 ≤ j) (hg : Gl X x) (ha : PA X (e :: es) ta)
    (hdb : (x == ("__debug__" : Str)) = false := by decide) (he : starEach (e :: es) X.env = (false, eval e X.env) :: starEach es X.env := by rfl) (hpl : (backTo pos (starEach es X.env)).any (·.1) = false := by rfl) :
    PMk X (.Call (.Name x p) (e :: es) [] pos) (tMkO C sp [] ta) := by
  obtain ⟨f, fd, ps, F, h1, h2, hm, b⟩ := c.ex
  exact pmk_oex T h1 h2 F (hr.mono hk) b .nil pass0 hg hm ha hdb he hpl
theorem pe_baseI {pl : Sem Bool} (hg : Gl X x) (hm : X.mg x = some (.ref S)) (B : BaseI X.K S) (ha : PA X (e :: es) ta)
    (hc : eval (.Call (.Attribute (.Name x p1) "__init__" p2) (e :: es) [] pos) X.env = (do
      let ov ← eval (.Name x p1) X.env
      standAt p2.atName
      let (f, first) ← holding [ov] (getMethod ov "__init__" pl)
      callWith pos f first (backTo pos (starEach (e :: es) X.env)) (backToKw pos (keywordEach [] X.env))) := by rfl)
    (hdb : (x == ("__debug__" : Str)) = false := by decide) (he : starEach (e :: es) X.env = (false, eval e X.env) :: starEach es X.env := by rfl) (hpl : (backTo pos (starEach es X.env)).any (·.1) = false := by rfl) :
    PE X (.Call (.Attribute (.Name x p1) "__init__" p2) (e :: es) [] pos) (tVeI X.K ta) := by
  constructor
  intro pins s σ H Q I h
  have asked : ∀ s1, Inv X pins σ H s1 → wpAny (model X.prog X.w) X.A (callWith pos (Value.builtin "ValueError.__init__") [] (backTo pos (starEach (e :: es) X.env)) []) (EP X pins σ Q) X.xe s1 := fun s1 I1 =>
    PyProof.Rows.callWith_method1 (thn (ha.run pos pins s1 σ H _ I1 h) fun us s2 ⟨vs, H2, I2, r, a, D, ws, evs, few, T, atA, q⟩ => by
      subst evs
      cases r with
      | @cons _ u0 _ ur r0 rr =>
        obtain rfl : u0 = Value.ref a := r0
        have few' : ur.length ≤ sizeLine := by
          have := Paired.length rr
          have := sizeLine_eq
          omega
        exact oinit_ok T I2 atA few' fun s3 I3 => ⟨.non, H2, I3, rfl, q⟩) he hpl
  refine PySem.W.methodCall_KW (ld_glob I hg hm ?_ hdb) hc
  refine PySem.W.method_cls I.kIn B.ga (PySem.W.cls_value I.kIn B.rd B.vi (by decide +kernel) ?_)
  exact asked _ (I.tok _)
end
section
variable {K : PySem.W.Frag} {σ : L2.St} {H : Hp} {D : Ends} {C a : Addr} {f : Str} {y : V} {ta : TA} {te to : TE}
theorem L_veI {R : Hp → Prop} {ws : List V} (T : OexC K C) (h : H a = some (exo a C none)) (l : ws.length ≤ 1000) (q : R H) : ∃ (a' C : Addr) (ws' : List V), V.ref a :: ws = .ref a' :: ws' ∧ ws'.length ≤ 1000 ∧ OexC K C ∧ H a' = some (exo a' C none) ∧ R H := ⟨a, C, ws, rfl, l, T, h, q⟩
theorem L_tveI {Q : VK} (h : ta σ H fun vs H1 => ∃ (a C : Addr) (ws : List V), vs = .ref a :: ws ∧ ws.length ≤ 1000 ∧ OexC K C ∧ H1 a = some (exo a C none) ∧ Q .non H1) : tVeI K ta σ H Q := h
theorem L_ost (h : te σ H fun y H1 => to σ H1 fun x H2 => ∃ a C : Addr, x = .ref a ∧ OexC K C ∧ PySem.W.findIn K (.ref C) f = some none ∧
  ((H2 a = some (exo a C none) ∧ ∀ dx, H2 dx = none → dx ≠ a → D.nx σ (upd (upd H2 dx (exd dx [(f, y)])) a (exo a C (some dx)))) ∨
    ∃ (dx : Addr) (fs : List (Str × V)), H2 a = some (exo a C (some dx)) ∧ H2 dx = some (exd dx fs) ∧ fs.length ≤ 900 ∧ D.nx σ (upd H2 dx (exd dx ((f, y) :: fs))))) : tOst K f to te D σ H := h
theorem L_ost1 {R : Hp → Prop} (T : OexC K C) (nf : PySem.W.findIn K (.ref C) f = some none) (h : H a = some (exo a C none)) (q : ∀ dx, H dx = none → dx ≠ a → R (upd (upd H dx (exd dx [(f, y)])) a (exo a C (some dx)))) :
    ∃ a' C : Addr, V.ref a = .ref a' ∧ OexC K C ∧ PySem.W.findIn K (.ref C) f = some none ∧
  ((H a' = some (exo a' C none) ∧ ∀ dx, H dx = none → dx ≠ a' → R (upd (upd H dx (exd dx [(f, y)])) a' (exo a' C (some dx)))) ∨
    ∃ (dx : Addr) (fs : List (Str × V)), H a' = some (exo a' C (some dx)) ∧ H dx = some (exd dx fs) ∧ fs.length ≤ 900 ∧ R (upd H dx (exd dx ((f, y) :: fs)))) := ⟨a, C, rfl, T, nf, .inl ⟨h, q⟩⟩
/-- what an __init__ with one field keeps -/
def XIni1 (C : Addr) (f : Str) (a : Addr) (v : V) (H : Hp) (Q : VK) : Prop := H a = some (exo a C none) ∧ ∀ d, H d = none → d ≠ a → Q .non (upd (upd H d (exd d [(f, v)])) a (exo a C (some d)))
/-- C(v) is raised -/
theorem L_mkO1 {sp : Sp} {E : XK} {v : V} (hs : ∀ a H Q E, XIni1 C f a v H Q → sp [.ref a, v] H Q E) (q : ∀ d, H d = none → E (.ref C) (some d) (upd H d (.xd [(f, v)]))) : [v].length ≤ 1000 ∧ ∀ a, H a = none → sp (.ref a :: ([v] ++ [])) (upd H a (exo a C none))
  (fun v H2 => v = .non ∧ ∃ (d : Addr) (fs : List (Str × V)), H2 a = some (exo a C (some d)) ∧ H2 d = some (exd d fs) ∧ H d = none ∧ E (.ref C) (some d) (upd (del H2 a) d (.xd fs))) (fun _ _ _ => False) := by
  refine ⟨by rw [List.length_singleton]; decide, fun a na => hs a _ _ _ ⟨upd_same, fun d nd ne => ⟨rfl, d, [(f, v)], upd_same, ?_, ?_, ?_⟩⟩⟩
  · rw [upd_ne ne, upd_same]
  · rw [upd_ne ne] at nd
    exact nd
  · rw [upd_ne ne] at nd
    have z : upd (del (upd (upd (upd H a (exo a C none)) d (exd d [(f, v)])) a (exo a C (some d))) a) d (.xd [(f, v)]) = upd H d (.xd [(f, v)]) := by
      funext b
      by_cases hb : b = d
      · rw [hb, upd_same, upd_same]
      · rw [upd_ne hb, upd_ne hb]
        by_cases ha : b = a
        · rw [ha, del_same, na]
        · rw [del_ne ha, upd_ne ha, upd_ne hb, upd_ne ha]
    rw [z]
    exact q d nd
theorem L_mkO {sp : Sp} {dvs : List V} {Q : XK} (h : ta σ H fun vs H1 => vs.length ≤ 1000 ∧ ∀ a, H1 a = none → sp (.ref a :: (vs ++ dvs)) (upd H1 a (exo a C none))
  (fun v H2 => v = .non ∧ ∃ (d : Addr) (fs : List (Str × V)), H2 a = some (exo a C (some d)) ∧ H2 d = some (exd d fs) ∧ H1 d = none ∧ Q (.ref C) (some d) (upd (del H2 a) d (.xd fs))) (fun _ _ _ => False)) : tMkO C sp dvs ta σ H Q := h
end
/-- isinstance(e, c) in e's own suite, whatever its dict -/
def rIsS (K : PySem.W.Frag) (a : Addr) (cls : Value) (d : Option Addr) : List V → Hp → VK → Prop := fun xs H Q => ∃ (D : Addr) (c : V) (u : Value) (b : Bool), xs = [.ref a, c] ∧ cls = .ref D ∧ (∀ dd, d = some dd → ∃ fs, H dd = some (.xd fs)) ∧ L2.ExcC K D ∧ ClsV c u ∧ PySem.W.kitOne K (.ref D) u = some b ∧ Q (.bl b) H
theorem call_isS {X : Cx} {a : Addr} {cls : Value} {d : Option Addr} {oe : Obj} {pn : List (Addr × Obj)} (hz : Zc cls d oe) (hf : ∃ vs, oe.data = .fields vs) : CallR (X.suite a ((a, oe) :: pn)) (.builtin "isinstance") (rIsS X.K a cls d) := by
  intro pins s σ H xs us Q I r h
  obtain ⟨D, c, u, b, rfl, rfl, hd, C, k, e, q⟩ := h
  obtain ⟨u1, u2, rfl, r1, r2⟩ := vals2 r
  cases r1
  cases k.eq r2
  obtain ⟨there, _⟩ := I.pin (a, oe) (List.mem_append_left _ List.mem_cons_self)
  obtain ⟨vs, data⟩ := hf
  have J : ∃ od, PySem.W.InstAt s.heap a oe D od := by
    have nc : PySem.W.notCls oe = true := by unfold PySem.W.notCls; rw [data] <;> rfl
    cases d with
    | none => exact ⟨none, there, hz.1, nc, by rw [hz.2]; exact True.intro⟩
    | some dd =>
      obtain ⟨fs, hdd⟩ := hd dd rfl
      obtain ⟨mA, ⟨o, es, ep, ho, _⟩, _⟩ := (show ObjOk X.prog X.w H s.heap dd (.xd fs) from I.hok dd _ hdd)
      exact ⟨some o, there, hz.1, nc, by rw [hz.2]; exact ho⟩
  obtain ⟨od, J⟩ := J
  obtain ⟨cd, hcd, _⟩ := PySem.W.any_some C.hd
  exact PySem.W.kia_one (PySem.W.kitx_exc (show (PySem.W.clsIn _ D).isSome = true by rw [hcd]; rfl) C.hg C.hk C.hs C.ha C.hn C.ht C.hm) I.kIn J e (fun z => nomatch z) fun tk => ⟨.bl b, H, I.tok tk, rfl, q⟩
theorem L_isS {K : PySem.W.Frag} {H : Hp} {Q : VK} {a D : Addr} {d : Option Addr} {c : V} {u : Value} {b : Bool} (hd : ∀ dd, d = some dd → ∃ fs, H dd = some (.xd fs)) (C : L2.ExcC K D) (k : ClsV c u) (e : PySem.W.kitOne K (.ref D) u = some b) (q : Q (.bl b) H) : rIsS K a (.ref D) d [.ref a, c] H Q := ⟨D, c, u, b, rfl, rfl, hd, C, k, e, q⟩
/-- the same, of some classes -/
def rIsST (K : PySem.W.Frag) (a : Addr) (cls : Value) (d : Option Addr) : List V → Hp → VK → Prop := fun xs H Q => ∃ (D tp : Addr) (cs : List V) (ws : List Value) (b : Bool), xs = [.ref a, .ref tp] ∧ cls = .ref D ∧ (∀ dd, d = some dd → ∃ fs, H dd = some (.xd fs)) ∧ L2.ExcC K D ∧ H tp = some (.tup cs) ∧ Paired ClsV cs ws ∧ PySem.W.kitAny K (.ref D) ws = some b ∧ Q (.bl b) H
theorem call_isST {X : Cx} {a : Addr} {cls : Value} {d : Option Addr} {oe : Obj} {pn : List (Addr × Obj)} (hz : Zc cls d oe) (hf : ∃ vs, oe.data = .fields vs) : CallR (X.suite a ((a, oe) :: pn)) (.builtin "isinstance") (rIsST X.K a cls d) := by
  intro pins s σ H xs us Q I r h
  obtain ⟨D, tp, cs, ws, b, rfl, rfl, hd, C, hT, k, e, q⟩ := h
  obtain ⟨u1, u2, rfl, r1, r2⟩ := vals2 r
  cases r1
  cases (show u2 = Value.ref tp from r2)
  obtain ⟨there, _⟩ := I.pin (a, oe) (List.mem_append_left _ List.mem_cons_self)
  obtain ⟨vs, data⟩ := hf
  have J : ∃ od, PySem.W.InstAt s.heap a oe D od := by
    have nc : PySem.W.notCls oe = true := by unfold PySem.W.notCls; rw [data] <;> rfl
    cases d with
    | none => exact ⟨none, there, hz.1, nc, by rw [hz.2]; exact True.intro⟩
    | some dd =>
      obtain ⟨fs, hdd⟩ := hd dd rfl
      obtain ⟨mA, ⟨o, es, ep, ho, _⟩, _⟩ := (show ObjOk X.prog X.w H s.heap dd (.xd fs) from I.hok dd _ hdd)
      exact ⟨some o, there, hz.1, nc, by rw [hz.2]; exact ho⟩
  obtain ⟨od, J⟩ := J
  obtain ⟨_, its, rv, o, h1, h2, n, h3⟩ := (show ObjOk X.prog X.w H s.heap tp (.tup cs) from I.hok tp _ hT)
  have e3 := ClsV.all k rv
  subst e3
  obtain ⟨oc, od2, dt, sl⟩ := o
  simp only at h2 h3
  subst h2 h3
  obtain ⟨cd, hcd, _⟩ := PySem.W.any_some C.hd
  exact PySem.W.kia_tup (PySem.W.kitx_exc (show (PySem.W.clsIn _ D).isSome = true by rw [hcd]; rfl) C.hg C.hk C.hs C.ha C.hn C.ht C.hm) I.kIn J h1 e (fun z => nomatch z) fun tk => ⟨.bl b, H, I.tok tk, rfl, q⟩
theorem L_isST {K : PySem.W.Frag} {H : Hp} {Q : VK} {a D tp : Addr} {d : Option Addr} {cs : List V} {ws : List Value} {b : Bool} (hd : ∀ dd, d = some dd → ∃ fs, H dd = some (.xd fs)) (C : L2.ExcC K D) (hT : H tp = some (.tup cs)) (k : Paired ClsV cs ws) (e : PySem.W.kitAny K (.ref D) ws = some b) (q : Q (.bl b) H) : rIsST K a (.ref D) d [.ref a, .ref tp] H Q := ⟨D, tp, cs, ws, b, rfl, rfl, hd, C, hT, k, e, q⟩
/-- one of two derivations -/
def tOrE (t1 t2 : TE) : TE := fun σ H Q => t1 σ H Q ∨ t2 σ H Q
theorem PE.or {X : Cx} {e : Expr} {t1 t2 : TE} (h1 : PE X e t1) (h2 : PE X e t2) : PE X e (tOrE t1 t2) :=
  ⟨fun pins s σ H Q I h => h.elim (fun h => h1.run pins s σ H Q I h) (fun h => h2.run pins s σ H Q I h)⟩
/-- what isinstance asks of an instance's own class; of the class it is asked of -/
structure InsC (K : PySem.W.Frag) (C : Addr) : Prop where
  ha : PySem.W.findIn K (.ref C) "__class__" = some (some (.builtin "object.__class__"))
  hn : PySem.W.specialIn K (.builtin "object.__class__") "__get__" = some (some (.builtin "getset_descriptor.__get__"))
  ht : PySem.W.takesIn K (.builtin "object.__class__") = some true
  hm : PySem.W.mroIn K C (.type "object") = some true
structure ClsT (K : PySem.W.Frag) (C : Addr) : Prop where
  i : PySem.W.isClsIn K C = true
  t : PySem.W.typeIn K (.ref C) = some (.type "type")
theorem tyx_I {K : PySem.W.Frag} {H : Hp} {a C dx : Addr} {fs : List (Str × V)} (h : H a = some (.ins C dx fs)) (cl : Cls K C) (c : InsC K C) : TyX K H (.ref a) (.ref C) := .base (.ins h cl c.ha c.hn c.ht c.hm)
theorem kit_own {K : PySem.W.Frag} {C D : Addr} {b : Bool} (hD : PySem.W.subIn K (.ref D) (.ref D) = some true) (k : ClsT K C) (h : PySem.W.subIn K (.ref D) (.ref C) = some b) : PySem.W.kitOne K (.ref D) (.ref C) = some b := by
  unfold PySem.W.kitOne
  by_cases e : D = C
  · subst e
    rw [hD] at h
    cases h
    rw [if_pos (by simp)]
  · rw [if_neg (by simpa using e)]
    have h2 : (PySem.W.clsIn K C).isSome = true := k.i
    show (if ((PySem.W.clsIn K C).isSome && PySem.W.typeIn K (.ref C) == some (.type "type")) = true then PySem.W.subIn K (.ref D) (.ref C) else none) = some b
    rw [if_pos (by rw [h2, k.t]; rfl)]
    exact h
theorem kit_not {K : PySem.W.Frag} {T : String} {C : Addr} {b : Bool} (k : ClsT K C) (h : PySem.W.subIn K (.type T) (.ref C) = some b) : PySem.W.kitOne K (.type T) (.ref C) = some b := by
  unfold PySem.W.kitOne
  rw [if_neg (by simp)]
  have h2 : (PySem.W.clsIn K C).isSome = true := k.i
  show (if ((PySem.W.clsIn K C).isSome && PySem.W.typeIn K (.ref C) == some (.type "type")) = true then PySem.W.subIn K (.type T) (.ref C) else none) = some b
  rw [if_pos (by rw [h2, k.t]; rfl)]
  exact h
theorem L_orl {t1 t2 : TE} {σ : L2.St} {H : Hp} {Q : VK} (h : t1 σ H Q) : tOrE t1 t2 σ H Q := .inl h
theorem L_orr {t1 t2 : TE} {σ : L2.St} {H : Hp} {Q : VK} (h : t2 σ H Q) : tOrE t1 t2 σ H Q := .inr h
theorem L_xf {a C : Addr} {cls : Value} {d : Option Addr} {f : Str} {te : TE} {σ : L2.St} {H : Hp} {Q : VK} (h : te σ H fun x H1 => x = .ref a ∧ cls = .ref C ∧ ∃ (dd : Addr) (fs : List (Str × V)) (v : V), d = some dd ∧ H1 dd = some (.xd fs) ∧ fs.lookup f = some v ∧ Q v H1) : tXf a cls d C f te σ H Q := h
theorem ExcC.xf {K : PySem.W.Frag} {C : Addr} (c : L2.ExcC K C) : XfC K C := ⟨c.hg, c.hk, c.hs, c.hd⟩
theorem L_isC {K : PySem.W.Frag} {H : Hp} {Q : VK} {x : V} {T : Value} {C : Addr} {b : Bool} (ty : TyX K H x T) (e : PySem.W.kitOne K T (.ref C) = some b) (q : Q (.bl b) H) : rIsi K [x, .ref C] H Q := ⟨x, .ref C, T, .ref C, b, rfl, .own C, ty, e, q⟩
theorem L_str1 {H : Hp} {Q : VK} {t : Int} (h : 0 ≤ t ∧ t ≤ 1000) (q : Q (.str (toString t)) H) : aStr1 [.int t] H Q := ⟨t, rfl, by have := Nat.log2_le_self t.natAbs; omega, q⟩
theorem str_short : ∀ t : Int, 0 ≤ t → t ≤ 100 → (↑(toString t) : Str).length ≤ 3 := by
  have h : ∀ n ∈ List.range 101, (↑(toString ((n : Nat) : Int)) : Str).length ≤ 3 := by decide +kernel
  intro t h0 h1
  have := h t.toNat (List.mem_range.mpr (by omega))
  rwa [Int.toNat_of_nonneg h0] at this

/-! ### exceptions held as values -/
/-- at a: an exception of the own class D, not raised; fs: its own fields -/
def XVal (H : Hp) (a D : Addr) (fs : List (Str × V)) : Prop := (fs = [] ∧ H a = some (ExI (.ref D) none a)) ∨ ∃ d, H a = some (exo a D (some d)) ∧ H d = some (exd d fs)
theorem XVal.same {H H' : Hp} {a D : Addr} {fs : List (Str × V)} (h : XVal H a D fs) (s : Same H H') : XVal H' a D fs := by
  rcases h with ⟨h1, h2⟩ | ⟨d, h1, h2⟩
  · exact .inl ⟨h1, s _ _ h2⟩
  · exact .inr ⟨d, s _ _ h1, s _ _ h2⟩
theorem xval_inst {X : Cx} {pins : List (Addr × Obj)} {σ : L2.St} {H : Hp} {s : Shared} {a D : Addr} {fs : List (Str × V)} (I : Inv X pins σ H s) (h : XVal H a D fs) : ∃ oe od, PySem.W.InstAt s.heap a oe D od := by
  rcases h with ⟨_, h⟩ | ⟨d, h1, h2⟩
  · obtain ⟨oe, J⟩ := exI_at I h
    exact ⟨oe, none, J⟩
  · obtain ⟨t1, ho⟩ := exo_at I.hok h1
    obtain ⟨mA, ⟨o, _, _, hd, _⟩, _⟩ := exd_at I.hok h2
    exact ⟨_, some o, ho, rfl, rfl, hd⟩
def rIsV (K : PySem.W.Frag) : List V → Hp → VK → Prop := fun xs H Q => ∃ (a D : Addr) (fs : List (Str × V)) (c : V) (u : Value) (b : Bool), xs = [.ref a, c] ∧ XVal H a D fs ∧ L2.ExcC K D ∧ ClsV c u ∧ PySem.W.kitOne K (.ref D) u = some b ∧ Q (.bl b) H
theorem call_isV {X : Cx} : CallR X (.builtin "isinstance") (rIsV X.K) := by
  intro pins s σ H xs us Q I r h
  obtain ⟨a, D, fs, c, u, b, rfl, hx, C, k, e, q⟩ := h
  obtain ⟨u1, u2, rfl, r1, r2⟩ := vals2 r
  cases r1
  cases k.eq r2
  obtain ⟨oe, od, J⟩ := xval_inst I hx
  obtain ⟨cd, hcd, _⟩ := PySem.W.any_some C.hd
  exact PySem.W.kia_one (PySem.W.kitx_exc (show (PySem.W.clsIn _ D).isSome = true by rw [hcd]; rfl) C.hg C.hk C.hs C.ha C.hn C.ht C.hm) I.kIn J e (fun z => nomatch z) fun tk => ⟨.bl b, H, I.tok tk, rfl, q⟩
theorem L_isV {K : PySem.W.Frag} {H : Hp} {Q : VK} {a D : Addr} {fs : List (Str × V)} {c : V} {u : Value} {b : Bool} (h : XVal H a D fs) (C : L2.ExcC K D) (k : ClsV c u) (e : PySem.W.kitOne K (.ref D) u = some b) (q : Q (.bl b) H) : rIsV K [.ref a, c] H Q := ⟨a, D, fs, c, u, b, rfl, h, C, k, e, q⟩
/-- e.f, e such a value -/
def tXv (K : PySem.W.Frag) (f : Str) (te : TE) : TE := fun σ H Q => te σ H fun x H1 => ∃ (a D d : Addr) (fs : List (Str × V)) (v : V), x = .ref a ∧ L2.ExcC K D ∧ PySem.W.findIn K (.ref D) f = some none ∧ H1 a = some (exo a D (some d)) ∧ H1 d = some (exd d fs) ∧ fs.lookup f = some v ∧ Q v H1
theorem L_xv {K : PySem.W.Frag} {f : Str} {te : TE} {σ : L2.St} {H : Hp} {Q : VK} (h : te σ H fun x H1 => ∃ (a D d : Addr) (fs : List (Str × V)) (v : V), x = .ref a ∧ L2.ExcC K D ∧ PySem.W.findIn K (.ref D) f = some none ∧ H1 a = some (exo a D (some d)) ∧ H1 d = some (exd d fs) ∧ fs.lookup f = some v ∧ Q v H1) : tXv K f te σ H Q := h
theorem pe_xv {X : Cx} {e : Expr} {te : TE} {f : Str} {pos : Pos} (he : PE X e te) (hb : attributeBase e f X.env (eval e X.env) = eval e X.env := by rfl) : PE X (.Attribute e f pos) (tXv X.K f te) := by
  constructor
  intro pins s σ H Q I h
  refine attr_of hb (thn (he.run pins s σ H _ I h) fun u s1 ⟨x, H1, I1, rx, a, D, d, fs, v, ex, C, nf, h1, h2, l, q⟩ => ?_)
  subst ex
  cases rx
  obtain ⟨t1, ho⟩ := exo_at I1.hok h1
  obtain ⟨mA, hns, rel⟩ := exd_at I1.hok h2
  obtain ⟨od, hod, hlk⟩ := lookIn_ns hns
  obtain ⟨w, hw, rw'⟩ := RelO.some_of (v := v) (o := mA f) (by rw [← l]; exact rel f)
  have J : PySem.W.InstAt s1.heap a _ D (some od) := ⟨ho, rfl, rfl, hod⟩
  exact HandSPX.exc_get I1.kIn J C.hg C.hk C.hs (PySem.W.findObj_own C.hd nf rfl (by rw [hlk, hw])) (handed_of rw') ⟨v, H1, I1.tok _, rw', q⟩
/-- C(), C without an own __init__ -/
def tMk0V (C : Addr) : TE := fun _ H Q => ∀ a, H a = none → Q (.ref a) (upd H a (ExI (.ref C) none a))
theorem pe_mk0V {X : Cx} {C : Addr} {x : Str} {p pos : Pos} (c : ExcAt X.K C) (gC : X.mg x = some (.ref C)) (hg : Gl X x) (hdb : (x == ("__debug__" : Str)) = false := by decide) : PE X (.Call (.Name x p) [] [] pos) (tMk0V C) := by
  constructor
  intro pins s σ H Q I h
  refine wpAny_Call_Name_kw (ld_glob I hg gC ?_ hdb)
  refine PySem.W.callWith_K0 I.kIn c.k ?_
  obtain ⟨bm, N, nm, qn, bs, hdct, sn, sub, ab, col, dd, k0, k1, k2, k3, k5, mN, hC, hN, hni, T⟩ := exc_obj I.kIn c.x
  refine wpAny_call_exc_subT PySem.F.excBase_ValueError T hC hN hni (fun h' a hm => ?_) (Nat.zero_le _)
  have na : H a = none := I.hok.gone hm.new
  obtain ⟨t, at_, _, _⟩ := hm.there
  refine ⟨.ref a, _, I.laidN (o := ExI (.ref C) none a) hm.keeps hm.new na ⟨⟨_, _, at_, ⟨rfl, rfl⟩, rfl⟩, ⟨_, at_⟩, fun _ _ ⟨o1, v1, z, r⟩ k => ⟨o1, v1, k o1 z, r⟩⟩, rfl, h a na⟩
/-- C(..), C with an own __init__ -/
def tMkV (C : Addr) (sp : Sp) (ta : TA) : TE := fun σ H Q => ta σ H fun vs H1 => vs.length ≤ 1000 ∧ ∀ a, H1 a = none → sp (.ref a :: vs) (upd H1 a (exo a C none)) (fun v H2 => v = .non ∧ Q (.ref a) H2) E0
theorem L_mkV {C : Addr} {sp : Sp} {ta : TA} {σ : L2.St} {H : Hp} {Q : VK} (h : ta σ H fun vs H1 => vs.length ≤ 1000 ∧ ∀ a, H1 a = none → sp (.ref a :: vs) (upd H1 a (exo a C none)) (fun v H2 => v = .non ∧ Q (.ref a) H2) E0) : tMkV C sp ta σ H Q := h
theorem L_mk0V {C : Addr} {σ : L2.St} {H : Hp} {Q : VK} (h : ∀ a, H a = none → Q (.ref a) (upd H a (ExI (.ref C) none a))) : tMk0V C σ H Q := h
theorem pe_mkV {X : Cx} {k j : Nat} {C : Addr} {x : Str} {sp : Sp} {p pos : Pos} {e : Expr} {es : List Expr} {ta : TA} (c : XMak X.prog X.w X.K X.mg X.base k x C sp) (T : OexC X.K C) (hr : Room j X.A) (hk : k + 1 ≤ j) (hg : Gl X x) (ha : PA X (e :: es) ta)
    (hdb : (x == ("__debug__" : Str)) = false := by decide) (he : starEach (e :: es) X.env = (false, eval e X.env) :: starEach es X.env := by rfl) (hpl : (backTo pos (starEach es X.env)).any (·.1) = false := by rfl) :
    PE X (.Call (.Name x p) (e :: es) [] pos) (tMkV C sp ta) := by
  obtain ⟨f, fd, ps, F, iC, tI, hm, hb⟩ := c.ex
  have room := hr.mono hk
  obtain ⟨nm, q, N, bs, bm, sn, sub, ab, col, dd, k0, k1, k2, k3, k5, hC, hbm⟩ := T.cls
  constructor
  intro pins s σ H Q I h
  refine wpAny_Call_Name_kw (ld_glob I hg hm ?_ hdb)
  refine PySem.W.callWith_K (h₀ := X.base) I.ok.mod.kin T.kC (thn (ha.run pos pins s σ H _ I h) fun us s1 ⟨vs, H1, I1, r1, hz, q1⟩ => ⟨I1.kIn, ?_⟩) he hpl
  show wpAny _ _ (call (.ref C) us) _ _ _
  have r1 : Vals vs us := r1
  have few : us.length ≤ sizeLine := by
    have z1 := Paired.length r1
    have z2 := sizeLine_eq
    omega
  obtain ⟨hp, g, dr, tk, os⟩ := s1
  -- the arguments' tuple and the exception's own place
  have old : ∀ b o, hp.get? b = some o → ((hp.push (PySem.W.kdv_tup us)).push (PySem.HandSPX.excO C hp.objs.size)).get? b = some o := fun b o z => Heap.get?_push_of_some _ (Heap.get?_push_of_some _ z)
  have here : ((hp.push (PySem.W.kdv_tup us)).push (PySem.HandSPX.excO C hp.objs.size)).get? (hp.objs.size + 1) = some (PySem.HandSPX.excO C hp.objs.size) := by heap_get
  have free : H1 (hp.objs.size + 1) = none := I1.hok.fresh (Nat.le_succ _)
  have J : Inv X pins σ (upd H1 (hp.objs.size + 1) (exo (hp.objs.size + 1) C none)) ⟨(hp.push (PySem.W.kdv_tup us)).push (PySem.HandSPX.excO C hp.objs.size), g, dr, tk, os⟩ :=
    I1.laid (t' := tk) old (Nat.le_succ _) (exo_ok here)
  have asked := q1 _ free
  have args : Vals (V.ref (hp.objs.size + 1) :: vs) (Value.ref (hp.objs.size + 1) :: us) := .cons rfl r1
  have many : (Value.ref (hp.objs.size + 1) :: us).length = ps.length := args.length.symm.trans (F.len _ _ _ _ asked)
  have bound := hb _ (Value.ref (hp.objs.size + 1) :: us) J.kIn (by rw [List.append_nil]; exact many)
  rw [List.append_nil] at bound
  refine wpAny_call (PySem.HandSPX.call_own PySem.F.excBase_ValueError (fun Y => PySem.HandSPX.refsVE_contains Y bm hbm) (I1.kIn _ _ hC) (PySem.W.looks_findIn I1.kIn iC) (fun self => PySem.W.bind_fn I1.kIn self tI) few ?_)
  refine codeAny_mono (F.run _ X.stack _ _ ⟨_, []⟩ _ _ _ E0 (room.make C us []) (J.env0.make C us []) bound args asked) fun out s' ho => ?_
  match out, ho with
  | .error e, ho => exact pass0 pins σ _ _ e s' J ho
  | .ok (.ret u), ho =>
    obtain ⟨v, H', J', rel, hv, rest⟩ := J.after ho
    cases hv
    exact ⟨rel, .ref (hp.objs.size + 1), H', J', rfl, rest⟩
  | .ok .next, ho => exact ho.elim
  | .ok .brk, ho => exact ho.elim
  | .ok .cont, ho => exact ho.elim
theorem L_dsetd {td ty tx : TE} {σ : L2.St} {H : Hp} {Q : VK} (h : td σ H fun x H1 => ∃ a, x = .ref a ∧ IsD H1 a ∧ ty σ H1 fun y H2 => tx σ H2 fun z H3 => ∃ (kvs : List (Key × V)) (k : Key), H3 a = some (.dK kvs) ∧ y = kV k ∧ kvs.length < sizeLine ∧
  (∀ v, valV kvs k = some v → Q v H3) ∧ (valV kvs k = none → Q z (upd H3 a (.dK (putK kvs k z))))) : tDSetd td ty tx σ H Q := h
/-! ### the tuples of a heap; fields changed by += -/
noncomputable def tp (H : Hp) : Hp := rs (fun b => ∃ xs, H b = some (.tup xs)) H
theorem tp_same {H H' : Hp} (h : ∀ b xs, H b = some (.tup xs) → H' b = some (.tup xs)) : Same (tp H) (tp H') := rs_same fun b o ⟨xs, e⟩ z => ⟨⟨xs, h b xs e⟩, by rw [e] at z; cases z; exact h b xs e⟩
theorem tp_upd {H : Hp} {a : Addr} {o : HO} (h : ∀ xs, H a ≠ some (.tup xs)) : Same (tp H) (tp (upd H a o)) := tp_same fun b xs e => by rw [upd_ne fun z => h xs (by rw [← z]; exact e)]; exact e
theorem tp_at {H : Hp} {b : Addr} {xs : List V} (h : H b = some (.tup xs)) : tp H b = some (.tup xs) := rs_at ⟨xs, h⟩ h
theorem tp_of {H H' : Hp} (e : Same H H') : Same (tp H) (tp H') := tp_same fun b xs z => e _ _ z
theorem L_fldaug {K : PySem.W.Frag} {σ : L2.St} {H : Hp} {N B C' : L2.St → Hp → Prop} {R : VK} {f : Str} {ta tv : TE} {rd : V → V → Hp → VK → Prop} (h : ta σ H fun x H1 => ∃ a C dx fs v, x = .ref a ∧ H1 a = some (.ins C dx fs) ∧ Cls K C ∧ NoAttr K C f ∧ fs.lookup f = some v ∧
  tv σ H1 fun y H2 => rd v y H2 fun z H3 => ∃ dx' fs', H3 a = some (.ins C dx' fs') ∧ fs'.length < 1000 ∧ N σ (upd H3 a (.ins C dx' (putF f z fs')))) : sFldAug K ta tv rd f ⟨N, R, B, C'⟩ σ H := h
theorem L_rAdd {H : Hp} {Q : VK} {i j : Int} (h : Q (.int (i + j)) H) : rAdd (.int i) (.int j) H Q := ⟨i, j, rfl, rfl, h⟩
theorem fm_flt {α β : Type} (c : α → Bool) (g : α → β) : ∀ l : List α, (List.range l.length).filterMap (fun i => (l[i]?).bind fun x => if c x = true then some (g x) else none) = (l.filter c).map g
  | [] => rfl
  | a :: l => by
    have ih := fm_flt c g l
    rw [List.length_cons, List.range_succ_eq_map]
    simp only [List.filterMap_cons, List.getElem?_cons_zero, Option.bind_some, List.filterMap_map, Function.comp_def, List.getElem?_cons_succ]
    rw [ih]
    cases h : c a
    · rw [List.filter_cons_of_neg (by simp [h])]; simp
    · rw [List.filter_cons_of_pos h]; simp
/-- t * n, t a text -/
def rRepS : R2 := fun x y H Q => ∃ (z : Str) (k : Int), x = .str z ∧ y = .int k ∧ MulOk z k ∧ Q (.str (Txt.mul z k)) H
theorem op_repS {X : Cx} : OpR X (binaryOp .Mult) rRepS := by
  intro pins s σ H x y v u Q I rx ry h
  obtain ⟨z, k, rfl, rfl, hz, q⟩ := h
  obtain ⟨t, rfl⟩ := rx
  obtain ⟨t', rfl⟩ := ry
  exact SB.mul hz fun t' tk => ⟨.str (Txt.mul z k), H, I.tok _, ⟨_, rfl⟩, q⟩
theorem L_repS0 {H : Hp} {Q : VK} {z : Str} {k : Int} (h : k = 0) (q : Q (.str Str.empty) H) : rRepS (.str z) (.int k) H Q := by
  subst h
  exact ⟨z, 0, rfl, rfl, ⟨by decide, fun h => absurd (by decide) h, fun h => absurd (by decide) h⟩, q⟩
theorem sqT_upd {K : PySem.W.Frag} {H : Hp} {p a : Addr} {us xs : List V} {o : HO} (hp : H p = some (.lst us)) (h : SqT K H a xs) : SqT K (upd H p o) a xs := by
  rcases h with (h | ⟨o', h⟩) | h
  · exact .inl (.inl (by rw [upd_ne fun z => by rw [z, hp] at h; cases h]; exact h))
  · exact .inl (.inr ⟨o', by rw [upd_ne fun z => by rw [z, hp] at h; cases h]; exact h⟩)
  · exact .inr h
theorem rep_map {α : Type} (f : α → V) (xs : List α) (n : Nat) : (List.replicate n (xs.map f)).flatten = ((List.replicate n xs).flatten).map f := by
  induction n with
  | zero => rfl
  | succ n ih => rw [List.replicate_succ, List.flatten_cons, List.replicate_succ, List.flatten_cons, List.map_append, ih]
theorem cutG_both {α : Type} (xs : List α) {a b : Nat} (h1 : a ≤ b) (h2 : b ≤ xs.length) : cutG xs (some (a : Int)) (some (b : Int)) = (xs.drop a).take (b - a) := by
  unfold cutG
  rw [HT.sIx_nat, HT.sIx_nat, Nat.min_eq_left h2, Nat.min_eq_left (Nat.le_trans h1 h2)]
/-! ### looks at a question's form, ahead of steps that show something -/
section
variable {K : PySem.W.Frag} {σ : L2.St} {H : Hp} {Q : VK} {x y v : V}
theorem G_mul (h : aMul x y H Q) : aMul x y H Q := h
theorem G_mod {g : Int → Int → V} (h : rI (fun _ j => 0 < j) g x y H Q) : rI (fun _ j => 0 < j) g x y H Q := h
theorem G_div {g : Int → Int → V} (h : rI CDivW g x y H Q) : rI CDivW g x y H Q := h
theorem G_pow {g : Int → Int → V} (h : rI CPow g x y H Q) : rI CPow g x y H Q := h
theorem G_ix {p : Addr} {i : Int} (h : rIx K (.ref p) (.int i) H Q) : rIx K (.ref p) (.int i) H Q := h
theorem G_len {p : Addr} (h : aLen K [.ref p] H Q) : aLen K [.ref p] H Q := h
theorem G_meth {a : Addr} {C : Addr} {m : Str} {R : Addr → Addr → List (Str × V) → Prop} (h : ∃ a' dx fs, V.ref a = V.ref a' ∧ H a' = some (.ins C dx fs) ∧ fs.lookup m = none ∧ R a' dx fs) : ∃ a' dx fs, V.ref a = V.ref a' ∧ H a' = some (.ins C dx fs) ∧ fs.lookup m = none ∧ R a' dx fs := h
theorem G_isi {i : Int} {n : String} (h : rIsi K [.int i, .ty n] H Q) : rIsi K [.int i, .ty n] H Q := h
theorem G_d {p : Prop} [Decidable p] {A B : Prop} (h : if decide p = true then A else B) : if decide p = true then A else B := h
theorem G_nd {p : Prop} [Decidable p] {A B : Prop} (h : if (!decide p) = true then A else B) : if (!decide p) = true then A else B := h
theorem G_gn {i : Nat} {N : L2.St → Hp → Prop} (h : gName i v σ H N) : gName i v σ H N := h
end
theorem inV_strs (n : Str) : ∀ ns : List Str, inV (.str n) (ns.map V.str) = decide (n ∈ ns)
  | [] => by simp [inV]
  | k :: ns => by
    have ih := inV_strs n ns
    unfold inV at ih ⊢
    rw [List.map_cons, List.any_cons, ih]
    by_cases e : n = k
    · subst e
      simp [eqV]
    · have e' : ¬ k = n := fun z => e z.symm
      simp [eqV, e, e']
theorem flat_strs : ∀ ns : List Str, (ns.map V.str).all flatV = true
  | [] => rfl
  | _ :: ns => by rw [List.map_cons, List.all_cons, flat_strs ns]; rfl
section
variable {K : PySem.W.Frag} {H : Hp} {Q : VK} {p : Addr} {z : Str} {ns : List Str}
theorem L_notInSs (h : SqL K H p (ns.map V.str)) (q : Q (.bl (!decide (z ∈ ns))) H) : aNotIn K (.str z) (.ref p) H Q := .inr ⟨p, _, rfl, .inl h, rfl, flat_strs _, by rw [if_pos rfl, inV_strs]; exact q⟩
theorem L_inSs (h : SqL K H p (ns.map V.str)) (q : Q (.bl (decide (z ∈ ns))) H) : aIn K (.str z) (.ref p) H Q := .inr ⟨p, _, rfl, .inl h, rfl, flat_strs _, by rw [if_neg (by decide), inV_strs]; exact q⟩
theorem L_notInTs (h : SqT K H p (ns.map V.str)) (q : Q (.bl (!decide (z ∈ ns))) H) : aNotIn K (.str z) (.ref p) H Q := .inr ⟨p, _, rfl, .inr h, rfl, flat_strs _, by rw [if_pos rfl, inV_strs]; exact q⟩
theorem L_inTs (h : SqT K H p (ns.map V.str)) (q : Q (.bl (decide (z ∈ ns))) H) : aIn K (.str z) (.ref p) H Q := .inr ⟨p, _, rfl, .inr h, rfl, flat_strs _, by rw [if_neg (by decide), inV_strs]; exact q⟩
end
/-! ### dicts: in, not in, d[k] = v -/
section
variable {K : PySem.W.Frag} {σ : L2.St} {H : Hp} {Q : VK} {ty td tv : TE} {y v : V} {a : Addr} {k : Key} {kvs : List (Key × V)}
theorem L_din (h : ty σ H fun y H1 => td σ H1 fun x H2 => ∃ a o, x = .ref a ∧ DGet H2 a y o ∧ Q (.bl o.isSome) H2) : tDIn ty td σ H Q := h
theorem L_dnin (h : ty σ H fun y H1 => td σ H1 fun x H2 => ∃ a o, x = .ref a ∧ DGet H2 a y o ∧ Q (.bl (!o.isSome)) H2) : tDNotIn ty td σ H Q := h
theorem L_dget (h : td σ H fun x H1 => ty σ H1 fun y H2 => ∃ a v, x = .ref a ∧ DGet H2 a y (some v) ∧ Q v H2) : tDGet td ty σ H Q := h
theorem L_dinv {R : Option V → Prop} (e : y = kV k) (h : H a = some (.dK kvs)) (q : R (valV kvs k)) : ∃ a' o, V.ref a = .ref a' ∧ DGet H a' y o ∧ R o := ⟨a, _, rfl, by rw [e]; exact DGet.k h, q⟩
theorem L_dgetv {R : V → Prop} (e : y = kV k) (h : H a = some (.dK kvs)) (hv : valV kvs k = some v) (q : R v) : ∃ a' v, V.ref a = .ref a' ∧ DGet H a' y (some v) ∧ R v := ⟨a, v, rfl, by rw [e, ← hv]; exact DGet.k h, q⟩
theorem L_dput {N B C : L2.St → Hp → Prop} {R : VK} (h : tv σ H fun v H1 => td σ H1 fun x H2 => ty σ H2 fun y H3 => ∃ a H4, x = .ref a ∧ DPut H3 a y v H4 ∧ N σ H4) : sDPut td ty tv ⟨N, R, B, C⟩ σ H := h
theorem L_dputv {R : Hp → Prop} (e : y = kV k) (h : H a = some (.dK kvs)) (hl : kvs.length < 1000000) (q : R (upd H a (.dK (putK kvs k v)))) : ∃ a' H4, V.ref a = .ref a' ∧ DPut H a' y v H4 ∧ R H4 := ⟨a, _, rfl, by rw [e]; exact DPut.k h (sz_lt hl), q⟩
end
theorem putK_len {kvs : List (Key × V)} {k : Key} {v : V} : (putK kvs k v).length ≤ kvs.length + 1 := by
  unfold putK
  split
  · rw [List.length_map]; omega
  · rw [List.length_append, List.length_singleton]; omega
/-! ### a comprehension of new pairs of ints -/
def T2 (H : Hp) (v : V) (p : Int × Int) : Prop := ∃ t, v = .ref t ∧ H t = some (.tup [.int p.1, .int p.2])
theorem paired_imp2 {α β : Type} {F G : α → β → Prop} (h : ∀ a b, F a b → G a b) : ∀ {xs : List α} {ys : List β}, Paired F xs ys → Paired G xs ys
  | [], _, p => by cases p; exact .nil
  | x :: xs, _, p => by cases p with | cons h1 h2 => exact .cons (h _ _ h1) (paired_imp2 h h2)
theorem paired_app {α β : Type} {F : α → β → Prop} : ∀ {xs us : List α} {ys ws : List β}, Paired F xs ys → Paired F us ws → Paired F (xs ++ us) (ys ++ ws)
  | [], _, _, _, p, q => by cases p; exact q
  | x :: xs, _, _, _, p, q => by cases p with | cons h1 h2 => exact .cons h1 (paired_app h2 q)
section
variable {σ : L2.St} {H : Hp} {g : TG} {tt : TT} {te : TE}
theorem lc_pr {J : It} {n : Nat} {G : Hp → Prop} {Y : Nat → Hp → V → Hp → Prop} (w : L2.Walk J n G Y) {vs : List Nat} {Qd : Addr → Hp → Prop} (f : Nat → Option (Int × Int)) (hn : n ≤ 1000000) (hG : ∀ H', Same H H' → G H')
    (hs : ∀ i x H2 H' (R : V → Hp → Prop) (R' : Hp → Prop), i < n → Same H H2 → Y i H2 x H' → (∀ t p H4, f i = some p → Same H2 H4 → H4 t = some (.tup [.int p.1, .int p.2]) → R (.ref t) H4) → (∀ H3, f i = none → Same H2 H3 → R' H3) →
      g x (wipe σ vs) H' fun σ2 H2 => wipe σ2 vs = wipe σ vs ∧ tt σ2 H2 fun b H3 => if b = true then te σ2 H3 R else R' H3)
    (q : ∀ p H' vs, H p = none → Same H H' → H' p = some (.lst vs) → Paired (T2 H') vs ((List.range n).filterMap f) → Qd p H') :
    ∀ D, H D = none → ∃ W : Nat → Nat → Hp → Prop, (∃ m, W 0 m (upd H D (.lst []))) ∧ ∀ i m H, W i m H →
      (J.stop i H ∧ Qd D H) ∨ (J.go i H ∧ ∃ Nx : Hp → Prop, (∀ H', Nx H' → ∃ m', m' < m ∧ W (i + 1) m' H') ∧ ∀ x H', J.yld i H x H' → g x (wipe σ vs) H' fun σ2 H2 => wipe σ2 vs = wipe σ vs ∧ tt σ2 H2 fun b H3 =>
        if b = true then te σ2 H3 fun y H4 => ∃ acc, H4 D = some (.lst acc) ∧ acc.length < sizeLine ∧ Nx (upd H4 D (.lst (acc ++ [y]))) else Nx H3) := by
  intro D hD
  refine lc_it w (fun i H2 => Same H H2 ∧ ∃ us, H2 D = some (.lst us) ∧ Paired (T2 H2) us ((List.range i).filterMap f)) ⟨same_new hD, [], upd_same, .nil⟩ (fun i H2 _ p => hG H2 p.1) ?_ (fun H2 ⟨p1, us, p2, p3⟩ => q D H2 us hD p1 p2 p3)
  rintro i x H2 H' hi ⟨p1, us, p2, p3⟩ y
  refine hs i x H2 H' _ _ hi p1 y (fun t d H4 e s et => ?_) (fun H3 e s => ?_)
  · have e4 := s _ _ p2
    have ne : ∀ t o, H4 t = some o → (∀ l, o ≠ .lst l) → t ≠ D := fun t o h h' z => by rw [z, e4] at h; injection h with h; exact h' _ h.symm
    refine ⟨us, e4, sz_lt (by have := Paired.length p3; have := fm_len' f i; omega), same_mut (p1.trans s) hD, _, upd_same, ?_⟩
    rw [fm_succ', e]
    have up : ∀ v p, T2 H4 v p → T2 (upd H4 D (.lst (us ++ [.ref t]))) v p := fun v p h => by
      obtain ⟨t', h1, h2⟩ := h
      exact ⟨t', h1, by rw [upd_ne (ne t' _ h2 (fun _ z => by cases z))]; exact h2⟩
    exact paired_app (paired_imp2 (fun v p h => up v p (by obtain ⟨t', h1, h2⟩ := h; exact ⟨t', h1, s _ _ h2⟩)) p3) (.cons (up _ _ ⟨t, rfl, et⟩) .nil)
  · refine ⟨p1.trans s, us, s _ _ p2, ?_⟩
    rw [fm_succ', e, List.append_nil]
    exact paired_imp2 (fun v p ⟨t, h1, h2⟩ => ⟨t, h1, s _ _ h2⟩) p3
end
/-! ### methods with defaults -/
structure MethD (K : PySem.W.Frag) (C : Addr) (m qual : Str) (st : Stmt) (ps : List Str) (dvs : List V) : Prop where
  ex : ∃ (f : Addr) (fd : FuncData), FunD K m qual (defArgs st) (defBody st) (defScope st) dvs [] f fd ∧ Meth K C m f ∧ Binds K fd ps [] ∧ ∃ ds, Vals dvs ds ∧ Binds K fd ps ds
theorem binds_full {K : PySem.W.Frag} {fd : FuncData} {ps : List Str} {dvs : List V} {j : Nat} (h : ∃ ds, Vals (dvs.drop j) ds ∧ Binds K fd ps ds) (hj : dvs.length ≤ j := by decide) : Binds K fd ps [] := by
  obtain ⟨ds, r, b⟩ := h
  rw [List.drop_eq_nil_of_le hj] at r
  cases r
  exact b
structure MetXD (P : Program) (w : World) (K : PySem.W.Frag) (mg : Str → Option Value) (base : Heap) (k : Nat) (C : Addr) (m : Str) (sp : Sp) (dvs : List V) : Prop where
  ex : ∃ (f : Addr) (fd : FuncData) (ps : List Str) (ds : List Value), Cls K C ∧ Meth K C m f ∧ FnOk P w K mg base (L2.CX P w) k f fd ps sp ∧ Binds K fd ps [] ∧ Vals dvs ds ∧ Binds K fd ps ds
section
variable {P : Program} {w : World} {K : PySem.W.Frag} {mg : Str → Option Value} {base : Heap}
theorem MethD.metXD {C : Addr} {m qual : Str} {st : Stmt} {N ps : List Str} {k : Nat} {sp : Sp} {dvs : List V} (c : Cls K C) (d : MethD K C m qual st ps dvs) (S : FnScope N ps (defScope st)) (len : ∀ vs H Q E, sp vs H Q E → vs.length = ps.length)
    (hbody : ∀ (f : Addr) (cdv : Value) (A : Around) (outer : List Env) (s : Shared) (H : Hp) (vs : List V) (Q : VK) (E : XK), Room k (A.deeper (envOfC qual (defScope st) s.heap.objs.size f cdv)) → sp vs H Q E →
      ∃ t, PSs (cxOf (L2.CX P w) P w K mg base N qual (defScope st) f cdv A outer s H E) (defBody st) t ∧ t { nx := fun _ H' => Q .non H', rt := Q } (start N vs) H) : MetXD P w K mg base (k + 1) C m sp dvs := by
  obtain ⟨f, fd, F, hm, b, ds, r, b2⟩ := d.ex
  exact ⟨f, fd, ps, ds, c, hm, F.ok S len (hbody f), b, r, b2⟩
theorem MetXD.m {k : Nat} {C : Addr} {m : Str} {sp : Sp} {dvs : List V} (c : MetXD P w K mg base k C m sp dvs) : MetX P w K mg base k C m sp := by
  obtain ⟨f, fd, ps, ds, hc, hm, F, b, r, b2⟩ := c.ex
  exact ⟨f, fd, ps, hc, hm, F, b⟩
end
def tMethDE (C : Addr) (m : Str) (sp : Sp) (dvs : List V) (E : L2.St → XK) (ta : TE) (t : TA) : TE := fun σ H Q => ta σ H fun x H1 => ∃ a dx fs, x = .ref a ∧ H1 a = some (.ins C dx fs) ∧ fs.lookup m = none ∧ t σ H1 fun vs H2 => sp (x :: vs ++ dvs) H2 Q (E σ)
section
variable {X : Cx} {CX : CXT} {k j : Nat} {f C : Addr} {fd : FuncData} {ps : List Str} {x m : Str} {sp : Sp} {p pos apos : Pos} {e o : Expr} {es : List Expr} {ta : TE} {t : TA} {E : L2.St → XK} {dvs : List V}
theorem L_methD {σ : L2.St} {H : Hp} {Q : VK} (h : ta σ H fun x H1 => ∃ a dx fs, x = .ref a ∧ H1 a = some (.ins C dx fs) ∧ fs.lookup m = none ∧ t σ H1 fun vs H2 => sp (x :: vs ++ dvs) H2 Q (E σ)) : tMethDE C m sp dvs E ta t σ H Q := h
theorem pe_xMtD {pl : Sem Bool} (c : MetXD X.prog X.w X.K X.mg X.base k C m sp dvs) (hr : Room j X.A) (hk : k ≤ j) (hx : ∀ σ, PassesAt (L2.CX X.prog X.w) X σ (E σ)) (he : PE X o ta) (ha : PA X (e :: es) t)
    (hst : starEach (e :: es) X.env = (false, eval e X.env) :: starEach es X.env := by rfl) (hpl : (backTo pos (starEach es X.env)).any (·.1) = false := by rfl)
    (ht : eval (.Call (.Attribute o m apos) (e :: es) [] pos) X.env = (do
      let ov ← eval o X.env
      standAt apos.atName
      let (f, first) ← holding [ov] (getMethod ov m pl)
      callWith pos f first (backTo pos (starEach (e :: es) X.env)) (backToKw pos (keywordEach [] X.env))) := by rfl) :
    PE X (.Call (.Attribute o m apos) (e :: es) [] pos) (tMethDE C m sp dvs E ta t) := by
  obtain ⟨f, fd, ps, ds, hc, hm, F, _, hd, hb⟩ := c.ex
  refine ⟨fun pins s σ H Q I h => ?_⟩
  refine PySem.W.methodCall_KW (pl := pl) (thn (he.run pins s σ H _ I h) fun u s1 ⟨x, H1, I1, rx, a, dx, fs, ex, ea, l, q⟩ => ?_) ht
  subst ex
  obtain rfl : u = Value.ref a := rx
  refine getmeth_ok I1 ea hc hm l ?_
  refine PySem.W.callWith_K (first := [.ref a]) (h₀ := X.base) I.ok.mod.kin hm.kp (thn (ha.run pos pins s1 σ H1 _ I1 q) fun us s2 ⟨vs, H2, I2, r, q2⟩ => ⟨I2.kIn, ?_⟩) hst hpl
  exact run_fnSD (us := .ref a :: us) (vs := .ref a :: vs) F (hr.mono hk) hb hd (hx σ) I2 (.cons rfl r) q2
end
/-! ### dicts with ints as keys -/
def rSortDI : List V → Hp → VK → Prop := fun xs H Q => ∃ (a : Addr) (kvs : List (Key × V)) (ks : List Int), xs = [.ref a] ∧ Rd H a (.dK kvs) ∧ kvs.map (·.1) = ks.map Sum.inl ∧ ks.length < 64 ∧
    ∀ (ys : List Int) (p : Addr), ys.Perm ks → ys.Pairwise (· ≤ ·) → H p = none → Q (.ref p) (upd H p (.lst (ys.map V.int)))
theorem cr_sortDI {X : Cx} (hc : X.calm = true) : CallR X (.builtin "sorted") rSortDI := call_sortedDI hc
/-- the dict kvs is the function g: a key stands where g is not nought -/
def DGr (kvs : List (Key × V)) (g : Int → Int) : Prop := ∃ ks : List Int, kvs.map (·.1) = ks.map Sum.inl ∧ ks.Nodup ∧ (∀ f, f ∈ ks ↔ g f ≠ 0) ∧ ∀ f, g f ≠ 0 → valV kvs (Sum.inl f : Key) = some (.int (g f))
theorem DGr.none {kvs : List (Key × V)} {g : Int → Int} (h : DGr kvs g) {f : Int} (hf : g f = 0) : valV kvs (Sum.inl f : Key) = none := by
  obtain ⟨ks, h1, h2, h3, h4⟩ := h
  cases e : valV kvs (Sum.inl f : Key) with
  | none => rfl
  | some v =>
    obtain ⟨kv, hk, _⟩ := Option.map_eq_some_iff.mp e
    have hm := List.mem_of_find?_eq_some hk
    have he : kv.1 = (Sum.inl f : Key) := of_decide_eq_true (List.find?_some (p := fun kv : Key × V => decide (kv.1 = (Sum.inl f : Key))) hk)
    have : (Sum.inl f : Key) ∈ ks.map Sum.inl := by rw [← h1, ← he]; exact List.mem_map_of_mem hm
    obtain ⟨f', hf', e'⟩ := List.mem_map.mp this
    cases e'
    exact absurd hf ((h3 f).mp hf')
theorem DGr.getD {kvs : List (Key × V)} {g : Int → Int} (h : DGr kvs g) (f : Int) : (valV kvs (Sum.inl f : Key)).getD (.int 0) = .int (g f) := by
  by_cases hf : g f = 0
  · rw [h.none hf, hf]; rfl
  · obtain ⟨ks, h1, h2, h3, h4⟩ := h
    rw [h4 f hf]; rfl
theorem DGr.nil : DGr [] (fun _ => 0) := ⟨[], rfl, .nil, fun f => by simp, fun f h => absurd rfl h⟩
theorem DGr.one {k v : Int} (hv : v ≠ 0) : DGr [(Sum.inl k, .int v)] (fun f => if f = k then v else 0) := ⟨[k], rfl, by simp, fun f => by
  rw [List.mem_singleton]
  by_cases h : f = k
  · simp [h, hv]
  · simp [h], fun f h => by
  by_cases e : f = k
  · subst e; simp [valV]
  · simp [e] at h⟩
theorem DGr.put {kvs : List (Key × V)} {g : Int → Int} (h : DGr kvs g) (k v : Int) (hv : v ≠ 0) : DGr (putK kvs (Sum.inl k) (.int v)) (fun f => if f = k then v else g f) := by
  have hval : ∀ f, (if f = k then v else g f) ≠ 0 → valV (putK kvs (Sum.inl k : Key) (.int v)) (Sum.inl f) = some (.int (if f = k then v else g f)) := fun f hf => by
    rw [L2.valV_put]
    by_cases e : f = k
    · rw [if_pos e, if_pos (by rw [e])]
    · rw [if_neg e] at hf ⊢
      rw [if_neg (fun z => e (Sum.inl.inj z))]
      obtain ⟨ks, h1, h2, h3, h4⟩ := h
      exact h4 f hf
  by_cases hk : g k = 0
  · have hn := h.none hk
    obtain ⟨ks, h1, h2, h3, h4⟩ := h
    have e : putK kvs (Sum.inl k : Key) (.int v) = kvs ++ [(Sum.inl k, .int v)] := L2.putK_new (.int v) hn
    refine ⟨ks ++ [k], by rw [e, List.map_append, List.map_append, h1]; rfl, ?_, fun f => ?_, hval⟩
    · rw [List.nodup_append]
      refine ⟨h2, by simp, fun a ha b hb => ?_⟩
      rw [List.mem_singleton] at hb
      rintro rfl
      subst hb
      exact (h3 _).mp ha hk
    · rw [List.mem_append, List.mem_singleton, h3]
      by_cases e : f = k
      · simp [e, hv]
      · simp [e]
  · obtain ⟨ks, h1, h2, h3, h4⟩ := h
    have hany : (kvs.any fun kv => decide (kv.1 = (Sum.inl k : Key))) = true := by
      rw [List.any_eq_true]
      have : (Sum.inl k : Key) ∈ kvs.map (·.1) := by rw [h1]; exact List.mem_map_of_mem ((h3 k).mpr hk)
      obtain ⟨kv, hm, e⟩ := List.mem_map.mp this
      exact ⟨kv, hm, decide_eq_true e⟩
    refine ⟨ks, ?_, h2, fun f => ?_, hval⟩
    · unfold putK
      rw [if_pos hany, List.map_map, ← h1]
      refine List.map_congr_left fun kv _ => ?_
      show (if kv.1 = Sum.inl k then (kv.1, V.int v) else kv).1 = kv.1
      split <;> rfl
    · rw [h3]
      by_cases e : f = k
      · simp [e, hv, hk]
      · simp [e]
theorem DGr.congr {kvs : List (Key × V)} {g g' : Int → Int} (h : DGr kvs g) (e : ∀ f, g f = g' f) : DGr kvs g' := by
  rw [show g' = g from funext fun f => (e f).symm]; exact h
/-- a rising list of whole numbers from 0 to n - 1 is known by its members -/
def upN (n : Nat) : List Int := (List.range n).map fun i : Nat => (i : Int)
def keysOf (n : Nat) (h : Int → Int) : List Int := (upN n).filter fun f => decide (h f ≠ 0)
theorem upN_mem {n : Nat} {f : Int} : f ∈ upN n ↔ 0 ≤ f ∧ f < n := by
  unfold upN
  rw [List.mem_map]
  constructor
  · rintro ⟨i, hi, rfl⟩
    have := List.mem_range.mp hi
    omega
  · rintro ⟨h0, h1⟩
    exact ⟨f.toNat, List.mem_range.mpr (by omega), by omega⟩
theorem upN_lt (n : Nat) : (upN n).Pairwise (· < ·) := by
  unfold upN
  rw [List.pairwise_map]
  exact List.pairwise_lt_range.imp fun h => by omega
theorem lt_perm : ∀ {l l' : List Int}, l.Pairwise (· < ·) → l'.Pairwise (· < ·) → (∀ x, x ∈ l ↔ x ∈ l') → l = l'
  | [], [], _, _, _ => rfl
  | [], b :: l', _, _, h => absurd ((h b).mpr (List.mem_cons_self ..)) (by simp)
  | a :: l, [], _, _, h => absurd ((h a).mp (List.mem_cons_self ..)) (by simp)
  | a :: l, b :: l', h1, h2, h => by
    rw [List.pairwise_cons] at h1 h2
    have hab : a = b := by
      have ha := (h a).mp (List.mem_cons_self ..)
      have hb := (h b).mpr (List.mem_cons_self ..)
      rcases List.mem_cons.mp ha with e | e
      · exact e
      · rcases List.mem_cons.mp hb with e' | e'
        · exact e'.symm
        · have := h1.1 b e'
          have := h2.1 a e
          omega
    subst hab
    rw [lt_perm h1.2 h2.2 fun x => ?_]
    constructor
    · intro hx
      have := h1.1 x hx
      rcases List.mem_cons.mp ((h x).mp (List.mem_cons_of_mem _ hx)) with e | e
      · omega
      · exact e
    · intro hx
      have := h2.1 x hx
      rcases List.mem_cons.mp ((h x).mpr (List.mem_cons_of_mem _ hx)) with e | e
      · omega
      · exact e
theorem L_sortDI {H : Hp} {Q : VK} {a : Addr} {kvs : List (Key × V)} {g : Int → Int} {n : Nat} (hn : n < 64) (h : H a = some (.dK kvs)) (hg : DGr kvs g) (hb : ∀ f, g f ≠ 0 → 0 ≤ f ∧ f < n) (q : ∀ p, H p = none → Q (.ref p) (upd H p (.lst ((keysOf n g).map V.int)))) : rSortDI [.ref a] H Q := by
  obtain ⟨ks, h1, h2, h3, h4⟩ := hg
  have key : ∀ ys : List Int, ys.Perm ks → ys.Pairwise (· ≤ ·) → ys = keysOf n g := fun ys hp hs => by
    refine lt_perm ?_ ((upN_lt n).filter _) fun x => ?_
    · have nd := hp.nodup_iff.mpr h2
      exact (hs.and nd).imp fun ⟨h1, h2⟩ => by omega
    · rw [hp.mem_iff, h3]
      unfold keysOf
      rw [List.mem_filter, upN_mem, decide_eq_true_eq]
      exact ⟨fun z => ⟨hb x z, z⟩, fun z => z.2⟩
  refine ⟨a, kvs, ks, rfl, .inl h, h1, ?_, fun ys p hp hs hf => ?_⟩
  · have : ks.Perm (keysOf n g) := (List.perm_ext_iff_of_nodup h2 ((upN_lt n).imp (fun h => by omega) |>.filter _)).mpr fun x => by
      rw [h3]
      rw [List.mem_filter, upN_mem, decide_eq_true_eq]
      exact ⟨fun z => ⟨hb x z, z⟩, fun z => z.2⟩
    rw [this.length_eq]
    refine Nat.lt_of_le_of_lt (List.length_filter_le ..) ?_
    unfold upN
    rw [List.length_map, List.length_range]
    exact hn
  · rw [key ys hp hs]
    exact q p hf
theorem L_dget2 {σ : L2.St} {H : Hp} {Q : VK} {td ty tx : TE} (h : td σ H fun x H1 => ∃ a, x = .ref a ∧ IsD H1 a ∧ ty σ H1 fun y H2 => tx σ H2 fun z H3 => ∃ o, DGet H3 a y o ∧ Q (o.getD z) H3) : tDGet2 td ty tx σ H Q := h
theorem isD_at' {H : Hp} {a : Addr} {kvs : List (Key × V)} (h : H a = some (.dK kvs)) : IsD H a := .inl ⟨kvs, .inl h⟩
/-! ### a chain of three comparisons -/
def tChain3 (r r' r'' : R2) (ta tb tc td : TE) : TE := fun σ H Q => ta σ H fun x H1 => tb σ H1 fun y H2 => r x y H2 fun z H3 => ∃ k, z = .bl k ∧
  (if k = true then tc σ H3 fun w' H4 => r' y w' H4 fun z2 H5 => ∃ k2, z2 = .bl k2 ∧ (if k2 = true then td σ H5 fun u' H6 => r'' w' u' H6 Q else Q (.bl false) H5) else Q (.bl false) H3)
section
variable {X : Cx} {a b c d : Expr} {ta tb tc td : TE} {pos : Pos}
theorem pe_chain3 {op op' op'' : CmpOp} {r r' r'' : R2} (ho : OpR X (compareOp op) r) (ho' : OpR X (compareOp op') r') (ho'' : OpR X (compareOp op'') r'') (ha : PE X a ta) (hb : PE X b tb) (hc : PE X c tc) (hd : PE X d td)
    (hm : lastMarks [op, op', op''] [b, c, d] = false := by with_unfolding_all rfl) : PE X (.Compare a [op, op', op''] [b, c, d] pos) (tChain3 r r' r'' ta tb tc td) := by
  refine ⟨fun pins s σ H Q I h => ?_⟩
  refine Compare_chain (thn (ha.run pins s σ H _ I h) fun v s1 ⟨x, H1, I1, r1, q1⟩ => chain_link (thn (hb.run pins s1 σ H1 _ I1 q1) fun u s2 ⟨y, H2, I2, r2, q2⟩ =>
    thn (ho pins s2 σ H2 x y v u _ I2 r1 r2 q2) fun d s3 ⟨z, H3, I3, r3, k, e, q3⟩ => ?_)) hm
  subst e
  cases r3
  refine wpAny_truthy_bool ?_
  cases k with
  | false => exact ite_ff ⟨.bl false, H3, I3, rfl, q3⟩
  | true =>
    refine ite_tt (chain_link (thn (hc.run pins s3 σ H3 _ I3 q3) fun w' s4 ⟨z', H4, I4, r4, q4⟩ => thn (ho' pins s4 σ H4 y z' u w' _ I4 r2 r4 q4) fun d2 s5 ⟨z2, H5, I5, r5, k2, e2, q5⟩ => ?_))
    subst e2
    cases r5
    refine wpAny_truthy_bool ?_
    cases k2 with
    | false => exact ite_ff ⟨.bl false, H5, I5, rfl, q5⟩
    | true => exact ite_tt (chain_last (thn (hd.run pins s5 σ H5 _ I5 q5) fun u' s6 ⟨z3, H6, I6, r6, q6⟩ => ho'' pins s6 σ H6 z' z3 w' u' Q I6 r4 r6 q6))
theorem L_chain3 {r r' r'' : R2} {σ : L2.St} {H : Hp} {Q : VK} (h : ta σ H fun x H1 => tb σ H1 fun y H2 => r x y H2 fun z H3 => ∃ k, z = .bl k ∧
  (if k = true then tc σ H3 fun w' H4 => r' y w' H4 fun z2 H5 => ∃ k2, z2 = .bl k2 ∧ (if k2 = true then td σ H5 fun u' H6 => r'' w' u' H6 Q else Q (.bl false) H5) else Q (.bl false) H3)) : tChain3 r r' r'' ta tb tc td σ H Q := h
end
/-- the chain's test, as a value's -/
theorem L_catA {K : PySem.W.Frag} {H : Hp} {a b : Addr} {xs ys : List V} {Q : VK} (h1 : SqT K H a xs) (h2 : SqT K H b ys) (n1 : xs ≠ []) (n2 : ys ≠ []) (hl : xs.length + ys.length ≤ sizeLine) (q : ∀ p, H p = none → Q (.ref p) (upd H p (.tup (xs ++ ys)))) : aAdd K (.ref a) (.ref b) H Q :=
  .inr (.inr (.inr ⟨a, b, xs, ys, rfl, rfl, h1, h2, hl, fun e => absurd e n1, fun _ e => absurd e n2, fun _ _ => q⟩))
/-! ### several except clauses, some of them with a name -/
abbrev HdA := Value × Option Nat × (Addr → Value → Option Addr → TS)
def wManyA (K : PySem.W.Frag) (Wout : WX) (D : Ends) : List HdA → WX
  | [] => Wout
  | (c, none, ts) :: r => fun cls d σ H => ∃ b, PySem.W.exmOne K cls c = some b ∧ (b = true → ∀ a, H a = none → ts a cls d D σ H) ∧ (b = false → wManyA K Wout D r cls d σ H)
  | (c, some i, ts) :: r => fun cls d σ H => ∃ b, PySem.W.exmOne K cls c = some b ∧
    (b = true → ∀ a, H a = none → ts a cls d ⟨fun σ' H' => H' a = none → D.nx (σ'.set i none) (upd H' a (ExI cls d a)), D.rt, fun σ' H' => D.bk (σ'.set i none) H', fun σ' H' => D.ct (σ'.set i none) H'⟩ (σ.set i (some (.ref a))) H) ∧
    (b = false → wManyA K Wout D r cls d σ H)
inductive HdsA (X : Cx) : List ExceptHandler → List HdA → Prop
  | nil : HdsA X [] []
  | cons {x : Str} {c : Value} {ts : Addr → Value → Option Addr → TS} {b₀ : Stmt} {suite : List Stmt} {np pos' : Pos} {hds : List ExceptHandler} {l : List HdA} (hc : Names X x c)
      (hsu : ∀ (a : Addr) (oe : Obj) (cls : Value) (d : Option Addr) (pn : List (Addr × Obj)), Zc cls d oe → (∃ vs, oe.data = .fields vs) → PSs (X.suite a ((a, oe) :: pn)) (b₀ :: suite) (ts a cls d)) (r : HdsA X hds l) :
      HdsA X (.ExceptHandler (some (.Name x np)) none (b₀ :: suite) pos' :: hds) ((c, none, ts) :: l)
  | consA {x n : Str} {c : Value} {i : Nat} {ts : Addr → Value → Option Addr → TS} {b₀ : Stmt} {suite : List Stmt} {np pos' : Pos} {hds : List ExceptHandler} {l : List HdA} (hi : X.N[i]? = some n) (hln : X.env.kindOf n = some .local) (hc : Names X x c)
      (hsu : ∀ (a : Addr) (oe : Obj) (cls : Value) (d : Option Addr) (pn : List (Addr × Obj)), Zc cls d oe → (∃ vs, oe.data = .fields vs) → PSs (X.suite a ((a, oe) :: pn)) (b₀ :: suite) (ts a cls d)) (r : HdsA X hds l) :
      HdsA X (.ExceptHandler (some (.Name x np)) (some n) (b₀ :: suite) pos' :: hds) ((c, some i, ts) :: l)
section
variable {X : Cx} {body : List Stmt} {h₀ : ExceptHandler} {hds : List ExceptHandler} {l : List HdA} {pos : Pos} {tb : WX → TS} {Wout : WX}
theorem ps_try_manyA (hs : X.stack = X.env :: X.outer) (hf : X.env.frame = some X.env.locals) (hN : X.N.Nodup) (hex : X.ex = []) (tk : Takes X Wout)
    (hb : ∀ (W : WX) (pn : List (Addr × Obj)) (xe : Value → Shared → Prop), Takes (X.tr pn xe) W → PassesOwn (model X.prog X.w) X.A X.env xe → PSs (X.tr pn xe) body (tb W))
    (hh : HdsA X (h₀ :: hds) l) : PS X (.Try body (h₀ :: hds) [] [] pos) (fun D σ H => tb (wManyA X.K Wout D l) D σ H) := by
  constructor
  intro pins s0 σ0 H0 D I0 start
  have okX := I0.ok
  have frames : X.A.frames = some (X.env :: X.outer) := by
    rw [okX.frames, hs]
  apply wpAny_Try_except
  let look : Value → Shared → Prop := fun e t1 => wpAny (model X.prog X.w) X.A (noteFrame e X.env) (fun _ t2 => wpAny (model X.prog X.w) X.A (setFlight e none)
    (fun _ t3 => wpAny (model X.prog X.w) X.A (handleBy e X.env (h₀ :: hds)) (SP X pins D) X.xe t3) X.xe t2) X.xe t1
  have caught : Takes (X.tr (X.pn ++ pins) look) (wManyA X.K Wout D l) := by
    intro u s' air
    obtain ⟨a, B, sI, pins', σ', H', cls, d, rfl, K', nb, up, sky, na, os, ag, w⟩ := air
    have K0 : Inv X pins σ' H' sI := K'.ofTry okX
    have sky1 : Sky B (X.env :: X.outer) a (Zc cls d) X.env.locals s'.heap := hs ▸ sky
    show wpAny (model X.prog X.w) X.A (noteFrame (.ref a) X.env) _ _ _
    apply Sky.land Zc.steady frames hf sky1
    intro h3 fl3 up3
    have J3 : Inv X pins σ' H' { s' with heap := h3 } := K0.landed nb fl3.1 (up.trans up3) os ag
    obtain ⟨oe3, vs3, at3, z3, data3⟩ := fl3.there
    have offFrames : a ∉ frs (X.env :: X.outer) := fun hm => by
      obtain ⟨_, o', there', hnf⟩ := fl3.2.2.1.mem hm
      rw [at3] at there'
      cases there'
      exact hnf _ data3
    have nL : a ≠ X.env.locals := fun e => offFrames (List.mem_filterMap.mpr ⟨X.env, List.mem_cons_self, by rw [hf, e]⟩)
    have nF : a ∉ X.fs := fun hm => by
      obtain ⟨e, he, q⟩ := List.mem_filterMap.mp hm
      exact offFrames (List.mem_filterMap.mpr ⟨e, List.mem_cons_of_mem _ he, q⟩)
    -- a is new: it stood neither at the try's entry nor at the def's
    have newB : B.get? a = none := fl3.2.1
    have newI : sI.heap.get? a = none := by
      cases q : sI.heap.get? a with
      | none => rfl
      | some o =>
        have := nb a o q (by rw [hs]; exact offFrames)
        rw [newB] at this
        cases this
    have new0 : X.s_0.heap.get? a = none := by
      cases q : X.s_0.heap.get? a with
      | none => rfl
      | some o =>
        obtain ⟨o', q'⟩ := K0.base.there a o q (by rw [hex]; exact List.not_mem_nil)
        rw [newI] at q'
        cases q'
    have apart : ∀ p ∈ X.pn ++ pins, p.1 ≠ a := fun p hp e => by
      have := (K0.pin p hp).1
      rw [e, newI] at this
      cases this
    have S3 := J3.suite at3 data3 na nL nF
    have go : ∀ {hds' : List ExceptHandler} {l' : List HdA}, HdsA X hds' l' → wManyA X.K Wout D l' cls d σ' H' →
        wpAny (model X.prog X.w) X.A (handleBy (.ref a) X.env hds') (SP X pins D) X.xe { s' with heap := h3 } := by
      intro hds' l' hk
      induction hk with
      | nil =>
        intro no
        apply wpAny_handleBy_nil
        obtain ⟨_, _, _, oe, vs, T, oT, ts', he, hz, hd, h1, hr⟩ := id fl3
        unfold PySem.passOn
        refine wpAny_bind (wpAny_field he hd h1 ?_)
        rw [if_neg (show ¬ ((Value.ref T == Value.none) = true) from by simp)]
        have on : wpAny (model X.prog X.w) X.A (setFlight (.ref a) X.env.frame) (fun _ s4 => wpAny (model X.prog X.w) X.A (throw (.ref a) : Sem Flow) (SP X pins D) X.xe s4) X.xe { s' with heap := h3 } := by
          rw [hf]
          apply HandSPX.setFlight_upZ fl3
          intro h4 held4 up4
          apply wpAny_throw
          apply tk
          exact ⟨a, B, sI, pins, σ', H', cls, d, rfl, K0, nb, (up.trans up3).trans up4, .inr (.inr (by rw [hs]; exact held4)), na, os, ag, no⟩
        first
          | exact wpAny_bind (wpAny_pure (wpAny_bind on))
          | exact wpAny_bind on

      | @cons x c ts b₀ suite np pos' hds2 l2 hc hsu r ih =>
        intro w
        obtain ⟨b, exm, yes, no⟩ := w
        refine wpAny_handleBy_cons (codeAny_handlers_test ?_) (by intro q; cases q)
        have tyA : PySem.W.Looks (model X.prog X.w) h3 (typeOf (.ref a)) cls := fun A Q E t k q => wpAny_typeOf_ref (k _ _ at3) (by rw [z3.1]; exact q)
        have matched := PySem.W.exm_one (M := model X.prog X.w) (J3.kIn) tyA exm
        have named : ∀ {Q : Value → Shared → Prop} {E : Value → Shared → Prop}, Q c { s' with heap := h3 } → wpAny (model X.prog X.w) (X.A.mark (some (.ref a))) (eval (.Name x np) X.env) Q E { s' with heap := h3 } := by
          intro Q E q
          obtain ⟨hg, hdbg, hm⟩ := hc
          rcases hm with hm | ⟨hm, hv, hnn⟩
          · exact ld_glob (X := X.suite a ((a, oe3) :: (X.pn ++ pins))) S3 hg hm q hdbg
          · exact ld_blt (X := X.suite a ((a, oe3) :: (X.pn ++ pins))) S3 hg hm hv q hnn hdbg
        apply named
        apply matched.here
        cases b with
        | true =>
          refine codeAny_handlers_suite ?_
          refine HandSPX.lands_againZ fl3 fun h4 fl4 up4 => ?_
          have J4 : Inv X pins σ' H' { s' with heap := h4 } := K0.landed nb fl4.1 ((up.trans up3).trans up4) os ag
          obtain ⟨oe4, vs4, he4, hz4, hd4⟩ := fl4.there
          have S4 := J4.suite he4 hd4 na nL nF
          refine wpAny_mono ((hsu a oe4 cls d (X.pn ++ pins) hz4 ⟨_, hd4⟩).run [] _ _ H' _ S4 (yes rfl a na)) (fun f s6 hsp => ?_) (fun _ _ z => False.elim z)
          cases f with
          | next =>
            obtain ⟨σ6, H6, S6, q6⟩ := hsp
            exact ⟨_, _, S6.unsuite okX, q6⟩
          | brk =>
            obtain ⟨σ6, H6, S6, q6⟩ := hsp
            exact ⟨_, _, S6.unsuite okX, q6⟩
          | cont =>
            obtain ⟨σ6, H6, S6, q6⟩ := hsp
            exact ⟨_, _, S6.unsuite okX, q6⟩
          | ret u =>
            obtain ⟨v6, σ6, H6, S6, r6, q6⟩ := hsp
            exact ⟨_, _, _, S6.unsuite okX, r6, q6⟩
        | false =>
          show wpAny _ X.A (handleBy (.ref a) X.env hds2) _ _ _
          exact ih (no rfl)
      | @consA x n c i ts b₀ suite np pos' hds2 l2 hi hln hc hsu r ih =>
        intro w
        obtain ⟨b, exm, yes, no⟩ := w
        refine wpAny_handleBy_cons (codeAny_handlers_test ?_) (by intro q; cases q)
        have tyA : PySem.W.Looks (model X.prog X.w) h3 (typeOf (.ref a)) cls := fun A Q E t k q => wpAny_typeOf_ref (k _ _ at3) (by rw [z3.1]; exact q)
        have matched := PySem.W.exm_one (M := model X.prog X.w) (J3.kIn) tyA exm
        have named : ∀ {Q : Value → Shared → Prop} {E : Value → Shared → Prop}, Q c { s' with heap := h3 } → wpAny (model X.prog X.w) (X.A.mark (some (.ref a))) (eval (.Name x np) X.env) Q E { s' with heap := h3 } := by
          intro Q E q
          obtain ⟨hg, hdbg, hm⟩ := hc
          rcases hm with hm | ⟨hm, hv, hnn⟩
          · exact ld_glob (X := X.suite a ((a, oe3) :: (X.pn ++ pins))) S3 hg hm q hdbg
          · exact ld_blt (X := X.suite a ((a, oe3) :: (X.pn ++ pins))) S3 hg hm hv q hnn hdbg
        apply named
        apply matched.here
        cases b with
        | true =>
          apply codeAny_handlers_suite_as
          apply HandSPX.lands_againZ fl3
          intro h4 fl4 up4
          have J4 : Inv X pins σ' H' { s' with heap := h4 } := K0.landed nb fl4.1 ((up.trans up3).trans up4) os ag
          obtain ⟨oe4, vs4, at4, z4, data4⟩ := fl4.there
          have S4 := J4.suite at4 data4 na nL nF
          refine store_ok (X := X.suite a ((a, oe4) :: (X.pn ++ pins))) (v := .ref a) S4 hN hi (.inl hln) rfl (fun s5 S5 => ?_) (.inr hln)
          refine wpAny_mono ((hsu a oe4 cls d (X.pn ++ pins) z4 ⟨_, data4⟩).run [] s5 _ H' _ S5 (yes rfl a na)) (fun f s6 hsp => ?_) (fun _ _ z => z.elim)
          -- out of the suite, the exception still pinned
          have out : ∀ {σ6 : L2.St} {H6 : Hp} {Q : Shared → Prop}, Inv (X.suite a ((a, oe4) :: (X.pn ++ pins))) [] σ6 H6 s6 → (∀ s7, Inv X pins (σ6.set i none) H6 s7 → H6 a = none → s7.heap.get? a = some oe4 → Q s7) →
              wpAny (model X.prog X.w) X.A (do bindName X.env n .none; unbindBehindTheSuite X.env n pos') (fun _ s7 => Q s7) X.xe s6 := fun {σ6 H6 Q} S6 hq => by
            have P6 : Inv X ((a, oe4) :: pins) σ6 H6 s6 := { S6.unsuite okX with
              pin := fun p hp => S6.pin p (by
                rcases List.mem_append.mp hp with hp | hp
                · exact List.mem_append_left _ (List.mem_cons_of_mem _ (List.mem_append_left _ hp))
                · rcases List.mem_cons.mp hp with e | hp
                  · rw [e]; exact List.mem_append_left _ List.mem_cons_self
                  · exact List.mem_append_left _ (List.mem_cons_of_mem _ (List.mem_append_right _ hp))) }
            refine gone_ok P6 hN hi hln fun s7 P7 => ?_
            have pinned := P7.pin (a, oe4) (List.mem_append_right _ List.mem_cons_self)
            refine hq s7 { P7 with pin := fun p hp => P7.pin p ?_ } pinned.2.1 pinned.1
            rcases List.mem_append.mp hp with hp | hp
            · exact List.mem_append_left _ hp
            · exact List.mem_append_right _ (List.mem_cons_of_mem _ hp)
          match f, hsp with
          | .next, ⟨σ6, H6, S6, q6⟩ => exact out S6 fun s7 J7 n6 a6 => ⟨_, _, track J7 n6 a6 z4 data4 new0 nL apart, q6 n6⟩
          | .brk, ⟨σ6, H6, S6, q6⟩ => exact out S6 fun s7 J7 _ _ => ⟨_, _, J7, q6⟩
          | .cont, ⟨σ6, H6, S6, q6⟩ => exact out S6 fun s7 J7 _ _ => ⟨_, _, J7, q6⟩
          | .ret u, ⟨v6, σ6, H6, S6, r6, q6⟩ => exact out S6 fun s7 J7 _ _ => ⟨_, _, _, J7, r6, q6⟩
        | false =>
          show wpAny _ X.A (handleBy (.ref a) X.env hds2) _ _ _
          exact ih (no rfl)
    exact go hh w
  refine wpAny_mono ((hb (wManyA X.K Wout D l) (X.pn ++ pins) look caught PassesOwn.looking).run [] s0 σ0 H0 D (I0.toTry _) start) (fun f s1 hsp => ?_) (fun e s1 he => he)
  match f, hsp with
  | .next, ⟨σ1, H1, J1, q⟩ => exact wpAny_execs_nil ⟨σ1, H1, J1.ofTry okX, q⟩
  | .brk, ⟨σ1, H1, J1, q⟩ => exact ⟨σ1, H1, J1.ofTry okX, q⟩
  | .cont, ⟨σ1, H1, J1, q⟩ => exact ⟨σ1, H1, J1.ofTry okX, q⟩
  | .ret u, ⟨v, σ1, H1, J1, r, q⟩ => exact ⟨v, σ1, H1, J1.ofTry okX, r, q⟩
end
theorem L_many {K : PySem.W.Frag} {H : Hp} {c : Value} {ts : Addr → Value → Option Addr → TS} {r : List HdA} {Wout : WX} {D : Ends} {σ : L2.St} {cls : Value} {d : Option Addr} (h : PySem.W.exmOne K cls c = some true)
    (q : ∀ a, H a = none → ts a cls d D σ H) : wManyA K Wout D ((c, none, ts) :: r) cls d σ H := ⟨true, h, fun _ => q, fun z => nomatch z⟩
theorem L_manyA {K : PySem.W.Frag} {H : Hp} {c : Value} {i : Nat} {ts : Addr → Value → Option Addr → TS} {r : List HdA} {Wout : WX} {D : Ends} {σ : L2.St} {cls : Value} {d : Option Addr} (h : PySem.W.exmOne K cls c = some true)
    (q : ∀ a, H a = none → ts a cls d ⟨fun σ' H' => H' a = none → D.nx (σ'.set i none) (upd H' a (ExI cls d a)), D.rt, fun σ' H' => D.bk (σ'.set i none) H', fun σ' H' => D.ct (σ'.set i none) H'⟩ (σ.set i (some (.ref a))) H) : wManyA K Wout D ((c, some i, ts) :: r) cls d σ H := ⟨true, h, fun _ => q, fun z => nomatch z⟩
theorem L_manyN {K : PySem.W.Frag} {H : Hp} {c : Value} {ts : Addr → Value → Option Addr → TS} {r : List HdA} {Wout : WX} {D : Ends} {σ : L2.St} {cls : Value} {d : Option Addr} (h : PySem.W.exmOne K cls c = some false)
    (q : wManyA K Wout D r cls d σ H) : wManyA K Wout D ((c, none, ts) :: r) cls d σ H := ⟨false, h, (fun z => nomatch z), fun _ => q⟩
/-! ### a != b of two lists of the same objects; xs[i] op= e; any of ints -/
def rNeRefs (K : PySem.W.Frag) : R2 := fun x y H Q => ∃ (a b : Addr) (os : List Addr), x = .ref a ∧ y = .ref b ∧ SqL K H a (os.map V.ref) ∧ SqL K H b (os.map V.ref) ∧ Q (.bl false) H
theorem vals_refs : ∀ {os : List Addr} {us : List Value}, Vals (os.map V.ref) us → us = os.map Value.ref
  | [], _, r => by cases r; rfl
  | o :: os, _, r => by
    cases r with
    | cons h t =>
      rw [show _ = Value.ref o from h, vals_refs t]
      rfl
theorem op_neRefs {X : Cx} (hu : X.A.units < cLine) : OpR X (compareOp .NotEq) (rNeRefs X.K) := by
  intro pins s σ H x y v u Q I rx ry h
  obtain ⟨a, b, os, rfl, rfl, ha, hb, q⟩ := h
  cases (show v = Value.ref a from rx)
  cases (show u = Value.ref b from ry)
  obtain ⟨us, r1, p1, _⟩ := I.list ha
  obtain ⟨ws, r2, p2, _⟩ := I.list hb
  obtain rfl := vals_refs r1
  obtain rfl := vals_refs r2
  refine SeqAt.RcNeAt.lists (e := fun _ => true) p1.isList p2.isList rfl hu (fun j h1 h2 => SeqAt.EqAt.same _) X.prog X.w _ _ ?_
  exact ⟨.bl false, H, I, by
    show Value.bool _ = Value.bool _
    rw [show ((List.range _).all fun _ => true) = true from List.all_eq_true.mpr fun _ _ => rfl]
    rfl, q⟩
def rGetL (K : PySem.W.Frag) : V → V → Hp → VK → Prop := fun o i H Q => ∃ (p : Addr) (xs : List V) (k : Int) (v : V), o = .ref p ∧ i = .int k ∧ SqL K H p xs ∧ 0 ≤ k ∧ xs[k.toNat]? = some v ∧ Q v H
theorem pget_list {X : Cx} : PGet X (rGetL X.K) := by
  intro pins s σ H o i ov iv Q I ro ri h
  obtain ⟨p, xs, k, v, rfl, rfl, hL, h0, hv, q⟩ := h
  cases (show ov = Value.ref p from ro)
  obtain ⟨t, rfl⟩ := ri
  obtain ⟨its, r, pl, hz⟩ := I.list hL
  obtain ⟨u, eu, ru⟩ := r.get hv
  have hl := r.length
  have hn := line63
  have lt := (List.getElem?_eq_some_iff.mp hv).1
  exact wpAny_getItem_list pl.isList h0 (by omega) (by simpa using eu) ⟨v, H, I, ru, q⟩
theorem L_augS {σ : L2.St} {H : Hp} {to ti te : TE} {tget : V → V → Hp → VK → Prop} {tip : TIp} {tset : TSet} {N B C : L2.St → Hp → Prop} {R : VK} (h : to σ H fun o H1 => ti σ H1 fun i H2 => tget o i H2 fun x H3 => te σ H3 fun y H4 => tip x y H4 fun z H5 => tset o i z H5 fun H6 => N σ H6) : tAugS to ti te tget tip tset ⟨N, R, B, C⟩ σ H := h
theorem L_getL {K : PySem.W.Frag} {H : Hp} {Q : VK} {p : Addr} {xs : List V} {k : Int} {v : V} (h : SqL K H p xs) (h0 : 0 ≤ k) (hv : xs[k.toNat]? = some v) (q : Q v H) : rGetL K (.ref p) (.int k) H Q := ⟨p, xs, k, v, rfl, rfl, h, h0, hv, q⟩
theorem truth_of_ints {prog : Program} {w : World} {A : Around} {ns : List Int} {its : List Value} (e : IntsAre its ns) :
    TruthOf prog w A (fun i v => its.toArray[i]? = some v) (fun i => ns.getD i 0 != 0) := fun i v s Q E hv hq => by
  have hv' : its[i]? = some v := by simpa using hv
  obtain ⟨tk, e2⟩ := PyProof.Rows.IntsAre.int_at e i v hv'
  rw [e2]
  exact truthy_int hq
theorem any_ints : ∀ ns : List Int, (List.range ns.length).any (fun i => ns.getD i 0 != 0) = ns.any (· != 0)
  | [] => rfl
  | n :: ns => by
    have ih := any_ints ns
    rw [List.length_cons, List.range_succ_eq_map, List.any_cons, List.any_map, List.any_cons, ← ih]
    rfl
def rAnyI (K : PySem.W.Frag) : List V → Hp → VK → Prop := fun vs H Q => ∃ (a : Addr) (ns : List Int), vs = [.ref a] ∧ SqL K H a (ns.map V.int) ∧ Q (.bl (ns.any (· != 0))) H
theorem cr_anyI {X : Cx} (calm : X.calm = true) : CallR X (.builtin "any") (rAnyI X.K) := by
  intro pins s σ H vs us Q I r h
  obtain ⟨a, ns, rfl, hL, q⟩ := h
  obtain ⟨its, rv, pl, _⟩ := I.list hL
  have few := rv.length
  rw [Vals.ref1 r]
  apply call_any_walk
  apply iter_any pl.isList
  intro s2 e2 st apart
  subst e2
  refine ⟨_, _, _, _, _, _, _, rfl, Walks.list (A := X.A.in1) (I.ok.hd calm) _ a apart its.toArray, st, truth_of_ints (intsAre_of rv), fun g tk k => ?_⟩
  refine ⟨.bl _, H, I.kept fun b o eo => k b o ?_ (Heap.get?_push_of_some _ eo), ?_, q⟩
  · intro hm
    rw [List.mem_singleton] at hm
    exact absurd (hm ▸ Heap.lt_size eo) (Nat.lt_irrefl _)
  · change Value.bool _ = Value.bool _
    rw [← any_ints, List.size_toArray, ← few, List.length_map]
/-! ### for k in d -/
theorem L_lock {t : TS} {N B C : L2.St → Hp → Prop} {R : VK} {σ : L2.St} {H : Hp} (h : ∃ d u, H d = some u ∧ Mut (some u) ∧ ∀ od, t ⟨fun σ' H' => H' d = some (.frz od u) ∧ N σ' (upd H' d u), fun v H' => H' d = some (.frz od u) ∧ R v (upd H' d u), fun σ' H' => H' d = some (.frz od u) ∧ B σ' (upd H' d u), fun σ' H' => H' d = some (.frz od u) ∧ C σ' (upd H' d u)⟩ σ (upd H d (.frz od u))) : tLock t ⟨N, R, B, C⟩ σ H := h
theorem L_iKeys {td : TE} {σ : L2.St} {H : Hp} {R : It → Hp → Prop} (h : td σ H fun x H1 => ∃ d o, x = .ref d ∧ ((∃ kvs, H1 d = some (.frz o (.dK kvs)) ∧ R (Itk d o kvs) H1) ∨ ∃ kvs, H1 d = some (.frz o (.dT kvs)) ∧ R (Itkt d o kvs) H1)) : iKeys td σ H R := h
theorem L_rk {H : Hp} {d : Addr} {o : Obj} {kvs : List (Key × V)} {R : Addr → Obj → List (Key × V) → Prop} {R2 : Addr → Obj → Prop} (h : H d = some (.frz o (.dK kvs))) (q : R d o kvs) : ∃ d' o', V.ref d = .ref d' ∧ ((∃ kvs, H d' = some (.frz o' (.dK kvs)) ∧ R d' o' kvs) ∨ R2 d' o') := ⟨d, o, rfl, .inl ⟨kvs, h, q⟩⟩
theorem same_lock {H H' : Hp} {d : Addr} {u : HO} {od : Obj} (h : H d = some u) (s : Same (upd H d (.frz od u)) H') : Same H (upd H' d u) := fun b o e => by
  by_cases n : b = d
  · rw [n, h] at e
    cases e
    rw [n]
    exact upd_same
  · rw [upd_ne n]
    exact s _ _ (by rw [upd_ne n]; exact e)
/-- where a recursion ends: nothing is promised -/
theorem DefAt.calF {P : Program} {w : World} {K : PySem.W.Frag} {mg : Str → Option Value} {base : Heap} {x : Str} {st : Stmt} {ps : List Str} {k : Nat} (d : DefAt K mg x st ps) : Cal P w K mg base k x (fun _ _ _ _ => False) := by
  obtain ⟨f, fd, F, hm, b⟩ := d.ex
  exact ⟨f, fd, ps, ⟨fun _ _ _ _ h => h.elim, fun _ _ _ _ _ _ _ _ _ _ _ _ _ h => h.elim⟩, hm, F.kp, b⟩
end Kt

set_option Elab.async false
set_option linter.all false
set_option maxRecDepth 100000
set_option maxHeartbeats 4000000
/-! Clo: lambdas without parameters that a def returns: made, kept with what their cells hold, called later -/
namespace Kt
open PySem PySem.Spec PyProof.Rows L2 LamX NdefX
/-- a cell that holds v -/
def CellO (c : Addr) (v : V) : HO := .ext fun h => ∃ u, RelV v u ∧ h.IsCell c (some u)
theorem cellO_ok {P : Program} {w : World} {H : Hp} {h : Heap} {c : Addr} {v : V} {u : Value} (r : RelV v u) (hc : h.IsCell c (some u)) : ObjOk P w H h c (CellO c v) := by
  obtain ⟨o, ho, hd⟩ := hc
  exact ⟨⟨u, r, o, ho, hd⟩, ⟨o, ho⟩, fun _ _ ⟨u, r, o, ho, hd⟩ st => ⟨u, r, o, st _ ho, hd⟩⟩
theorem cellO_at {P : Program} {w : World} {H : Hp} {h : Heap} {c : Addr} {v : V} (hok : HOk P w H h) (e : H c = some (CellO c v)) : ∃ u, RelV v u ∧ h.IsCell c (some u) := (hok c _ e).1
/-- a lambda's words, its cells, its code object -/
structure LF where
  qual : Str
  params : Arguments
  body : Expr
  scope : Scope
  cl : List (Str × Addr)
  c : Addr
/-- the object at f is the lambda F -/
def LamO (f : Addr) (F : LF) : HO := .ext fun h => ∃ (pm ctv : Value), h.get? f = some (PySem.W.kla_obj "<lambda>" F.qual F.params F.body F.scope F.cl pm F.c ctv)
section
variable {X : Cx} {pins : List (Addr × Obj)} {σ : L2.St} {H : Hp} {s : Shared}
/-- an object that is there is known from now on -/
theorem known {a : Addr} {φ : Heap → Prop} (I : Inv X pins σ H s) (na : H a = none) (ok : φ s.heap ∧ (∃ o, s.heap.get? a = some o) ∧ ∀ h1 h2 : Heap, φ h1 → (∀ o, h1.get? a = some o → h2.get? a = some o) → φ h2)
    (nb : ∀ o, X.s_0.heap.get? a = some o → X.H_0 a ≠ none) (nL : a ≠ X.env.locals) (nC : ∀ x c, X.env.cells.lookup x = some c → c ≠ a) (np : ∀ p ∈ X.pn ++ pins, p.1 ≠ a) : Inv X pins σ (upd H a (.ext φ)) s where
  ok := I.ok
  os := I.os
  bare := I.bare
  base := {
    keep := I.base.keep
    slot := I.base.slot
    free := fun b o e n hx => by
      rw [upd_ne fun z => nb o (by rw [← z]; exact e) (by rw [← z]; exact n)]
      exact I.base.free b o e n hx
    there := I.base.there
    tups := fun b xs q => by
      have t := I.base.tups b xs q
      rw [upd_ne (ne_of_none t na)]; exact t
    frzs := fun b o u q => by
      have t := I.base.frzs b o u q
      rw [upd_ne (ne_of_none t na)]; exact t
    tbls := fun b ps q => by
      obtain ⟨more, t⟩ := I.base.tbls b ps q
      exact ⟨more, by rw [upd_ne (ne_of_none t na)]; exact t⟩ }
  loc := I.loc
  cell := I.cell
  free := by rw [upd_ne nL.symm]; exact I.free
  freeC := fun x c e => by rw [upd_ne (nC x c e)]; exact I.freeC x c e
  pin := fun p hp => by
    obtain ⟨h1, h2, h3⟩ := I.pin p hp
    exact ⟨h1, by rw [upd_ne (np p hp)]; exact h2, h3⟩
  hok := fun b o e => by
    by_cases hb : b = a
    · cases hb
      rw [upd_same] at e
      cases e
      exact ok
    · rw [upd_ne hb] at e
      exact (I.hok b o e).stay (fun _ _ _ q => q) (fun c q => by rw [upd_ne (ne_of_none q na)]; exact q) fun c xs q => by rw [upd_ne (ne_of_none q na)]; exact q
  len := I.len
/-- a lambda's object, just laid, is known -/
theorem lam_known {F : LF} {pm ctv : Value} {t : Nat} (I : Inv X pins σ H s) : Inv X pins σ (upd H s.heap.objs.size (LamO s.heap.objs.size F)) { s with heap := s.heap.push (PySem.W.kla_obj "<lambda>" F.qual F.params F.body F.scope F.cl pm F.c ctv), toks := t } := by
  have e : (s.heap.push (PySem.W.kla_obj "<lambda>" F.qual F.params F.body F.scope F.cl pm F.c ctv)).get? s.heap.objs.size = some _ := Heap.get?_push_size _ rfl
  exact I.laid (fun b u h => Heap.get?_push_of_some _ h) (Nat.le_refl _) ⟨⟨pm, ctv, e⟩, ⟨_, e⟩, fun _ _ ⟨p, t, z⟩ st => ⟨p, t, st _ z⟩⟩
theorem lam_made {T : List (Addr × Str)} {c P : Addr} {q : Str} {params : Arguments} {body : Expr} {scope : Scope} {pos : Pos} {E : Value → Shared → Prop} {R : Value → Shared → Prop} (I : Inv X pins σ H s) (TB : TabB X.base X.mg c P) (hcode : X.env.code = .ref c)
    (hq : X.env.qual ++ "<lambda>" = q) (hm : (P, q) ∈ T) (hu : ∀ p ∈ T, p.1 = P → p.2 = q) (hT : Tabs T H) (hdef : defaultsOf params X.env = ([], [])) (hfree : ∀ y ∈ scope.names, y.2 = .free → ∃ c, X.env.cells.lookup y.1 = some c)
    (k : ∀ (f c' : Addr) (H1 : Hp) (t : Shared), Inv X pins σ H1 t → ExtN H H1 → Tabs T H1 → H f = none → H1 f = some (LamO f ⟨q, params, body, scope, cloFrom X.env.cells scope.names [], c'⟩) → H1 c' = some (CodeO c' q) → R (.ref f) t) :
    wpAny (model X.prog X.w) X.A (eval (.Lambda params body scope pos) X.env) R E s := by
  subst hq
  obtain ⟨ps, tP, ok, known⟩ := hT _ hm
  refine PySem.W.kla_eval hdef ?_
  have tH : s.heap.get? P = some { cls := .none, data := .fields ps } := I.hok P _ tP
  have bi : s.heap.BuiltinsAt X.mg P := TB.bm.keeps I.bk
  cases found : codeAmong pos ps.toList with
  | some cv =>
    obtain ⟨c', rfl, hc'⟩ := known pos cv found
    refine PySem.W.kla_makeFunctionHit (mg := X.mg) (c := c) (P := P) (ps := ps)
      (closure_ok hfree) I.ok.glob (I.mod.glob.keeps I.bk) hcode (TB.code.keeps I.bk)
      tH ok found bi fun ctv g tk keep big => ?_
    have J : Inv X pins σ H { s with heap := g, toks := tk } := I.kept keep
    have free : H g.objs.size = none := J.hok.fresh (Nat.le_refl _)
    have J2 := lam_known (F := ⟨X.env.qual ++ "<lambda>", params, body, scope, cloFrom X.env.cells scope.names [], c'⟩) (pm := (X.mg "__name__").getD .none) (ctv := ctv) (t := tk) J
    have more : ∀ b o, H b = some o → upd H g.objs.size (LamO g.objs.size ⟨X.env.qual ++ "<lambda>", params, body, scope, cloFrom X.env.cells scope.names [], c'⟩) b = some o := fun b o e => (upd_ne (ne_of_none e free)).trans e
    exact k _ c' _ _ J2 (.of more) (hT.ext more) free upd_same (more _ _ hc')
  | none =>
    refine PySem.W.kla_makeFunction (mg := X.mg) (c := c) (P := P) (ps := ps)
      (closure_ok hfree) I.ok.glob (I.mod.glob.keeps I.bk) hcode (TB.code.keeps I.bk)
      tH ok found TB.gP bi fun c' ctv g tk keep big lt rec_ tab => ?_
    obtain ⟨c2, oc, vs, t, e2, hoc, hd, hv⟩ := rec_
    cases e2
    have free : H c' = none := I.hok.fresh big
    have J := inv_table (t' := tk) (more := #[rawInt pos.line, rawInt pos.col, .ref c']) (h' := g) I tP (fun b o n e => keep b o n e) tab big ⟨oc, vs, t, hoc, hd, hv⟩
    have list : (ps ++ #[rawInt pos.line, rawInt pos.col, .ref c']).toList = ps.toList ++ [rawInt pos.line, rawInt pos.col, .ref c'] := by simp
    generalize hH : upd (upd H P (.tbl (ps ++ #[rawInt pos.line, rawInt pos.col, .ref c']))) c' (CodeO c' (X.env.qual ++ "<lambda>")) = H1 at J
    have atC : H1 c' = some (CodeO c' (X.env.qual ++ "<lambda>")) := by rw [← hH]; exact upd_same
    have atP : H1 P = some (.tbl (ps ++ #[rawInt pos.line, rawInt pos.col, .ref c'])) := by rw [← hH, upd_ne (ne_of_none tP free)]; exact upd_same
    have oth : ∀ b, b ≠ P → b ≠ c' → H1 b = H b := fun b m1 m2 => by rw [← hH, upd_ne m2, upd_ne m1]
    have ex : ExtN H H1 := fun b o e n => by
      rw [oth b (fun z => n ps (Option.some.inj (e.symm.trans (by rw [z]; exact tP)))) (ne_of_none e free)]
      exact e
    have T1 : Tabs T H1 := fun p hp => by
      by_cases hb : p.1 = P
      · rw [hu p hp hb, hb]
        refine ⟨_, atP, by rw [list]; exact PySem.TriplesOk_snoc _ _ _ _ ok, fun p' cv hcv => ?_⟩
        rw [list] at hcv
        rcases among_app _ ok hcv with z | z
        · obtain ⟨c0, r1, r2⟩ := known p' cv z
          exact ⟨c0, r1, ex _ _ r2 codeO_ne⟩
        · exact ⟨c', z, atC⟩
      · obtain ⟨qs, r1, r2, r3⟩ := hT p hp
        refine ⟨qs, by rw [oth p.1 hb (ne_of_none r1 free)]; exact r1, r2, fun p' cv hcv => ?_⟩
        obtain ⟨c0, r4, r5⟩ := r3 p' cv hcv
        exact ⟨c0, r4, ex _ _ r5 codeO_ne⟩
    have freeF : H1 g.objs.size = none := J.hok.fresh (Nat.le_refl _)
    have J2 := lam_known (F := ⟨X.env.qual ++ "<lambda>", params, body, scope, cloFrom X.env.cells scope.names [], c'⟩) (pm := (X.mg "__name__").getD .none) (ctv := ctv) (t := tk) J
    have more : ∀ b o, H1 b = some o → upd H1 g.objs.size (LamO g.objs.size ⟨X.env.qual ++ "<lambda>", params, body, scope, cloFrom X.env.cells scope.names [], c'⟩) b = some o := fun b o e => (upd_ne (ne_of_none e freeF)).trans e
    have freeH : H g.objs.size = none := by
      cases e : H g.objs.size with
      | none => rfl
      | some o =>
        have lt2 := (I.hok _ _ e).lt
        exact absurd lt2 (Nat.not_lt.mpr (Nat.le_trans big (Nat.le_of_lt lt)))
    exact k _ c' _ _ J2 (ex.trans (.of more)) (T1.ext more) freeH upd_same (more _ _ atC)
/-- making a lambda -/
def tLam (T : List (Addr × Str)) (mk : Addr → LF) : TE := fun _ H Q => Tabs T H ∧ ∀ (f c' : Addr) (H1 : Hp), ExtN H H1 → Tabs T H1 → H f = none → H1 f = some (LamO f (mk c')) → H1 c' = some (CodeO c' (mk c').qual) → Q (.ref f) H1
theorem pe_lam {T : List (Addr × Str)} {c P : Addr} {params : Arguments} {body : Expr} {scope : Scope} {pos : Pos} {q : Str} (TB : TabB X.base X.mg c P) (hcode : X.env.code = .ref c) (hq : X.env.qual ++ "<lambda>" = q)
    (hm : (P, q) ∈ T) (hu : ∀ p ∈ T, p.1 = P → p.2 = q) (hdef : defaultsOf params X.env = ([], [])) (hfree : ∀ y ∈ scope.names, y.2 = .free → X.env.scope.names.lookup y.1 = some .cell ∨ X.env.scope.names.lookup y.1 = some .free) :
    PE X (.Lambda params body scope pos) (tLam T fun c' => ⟨q, params, body, scope, cloFrom X.env.cells scope.names [], c'⟩) := by
  constructor
  intro pins s σ H Q I h
  obtain ⟨hT, h⟩ := h
  exact lam_made I TB hcode hq hm hu hT hdef (fun y hy e => (hfree y hy e).elim (fun z => I.ok.has _ (.inl z)) fun z => I.ok.has _ (.inr z)) fun f c' H1 t J ex T1 hf e1 e2 => ⟨.ref f, H1, J, rfl, h f c' H1 ex T1 hf e1 e2⟩
end
/-! ### a def's text, its end told with the slots -/
abbrev TSR := (V → L2.St → Hp → Prop) → L2.St → Hp → Prop
/-- statements that end with a return -/
structure PSR (X : Cx) (sts : List Stmt) (t : TSR) : Prop where
  run : ∀ (pins : List (Addr × Obj)) (s : Shared) (σ : L2.St) (H : Hp) (R : V → L2.St → Hp → Prop), Inv X pins σ H s → t R σ H →
    wpAny (model X.prog X.w) X.A (execs sts X.env) (fun fl s' => match fl with | .ret u => ∃ v σ' H', Inv X pins σ' H' s' ∧ RelV v u ∧ R v σ' H' | _ => False) X.xe s
section
variable {X : Cx}
/-- no way out but on -/
abbrev onlyN (N : L2.St → Hp → Prop) : Ends := { nx := N, rt := fun _ _ => False, bk := fun _ _ => False, ct := fun _ _ => False }
theorem psr_cons {st : Stmt} {rest : List Stmt} {t : TS} {u : TSR} (h1 : PS X st t) (h2 : PSR X rest u) : PSR X (st :: rest) (fun R σ H => t (onlyN fun σ1 H1 => u R σ1 H1) σ H) := by
  constructor
  intro pins s σ H R I h
  refine wpAny_execs_cons (thn (h1.run pins s σ H _ I h) fun fl s1 q => ?_)
  cases fl with
  | next =>
    obtain ⟨σ1, H1, J, q⟩ := q
    exact h2.run pins s1 σ1 H1 R J q
  | ret v => obtain ⟨_, _, _, _, _, q⟩ := q; exact q.elim
  | brk => obtain ⟨_, _, _, q⟩ := q; exact q.elim
  | cont => obtain ⟨_, _, _, q⟩ := q; exact q.elim
theorem psr_ret {e : Expr} {te : TE} {pos : Pos} (he : PE X e te) : PSR X [.Return (some e) pos] (fun R σ H => te σ H fun x H1 => R x σ H1) := by
  constructor
  intro pins s σ H R I h
  refine wpAny_execs_cons (wpAny_Return_some (thn (he.run pins s σ H _ I h) fun v s1 ⟨x, H1, J, r, q⟩ => ?_))
  exact ⟨x, σ, H1, J, r, q⟩
/-- if c: .. return; the rest -/
theorem psr_if {c : Expr} {a rest : List Stmt} {pos : Pos} {tc : TT} {t u : TSR} (hc : PT X c tc) (ha : PSR X a t) (hb : PSR X rest u) : PSR X (.If c a [] pos :: rest) (fun R σ H => tc σ H fun b H1 => if b = true then t R σ H1 else u R σ H1) := by
  constructor
  intro pins s σ H R I h
  refine wpAny_execs_cons (wpAny_If (thn (hc.run pins s σ H _ I h) fun b s1 ⟨H1, J, q⟩ => ?_))
  cases b with
  | true =>
    refine thn (ha.run pins s1 σ H1 R J q) fun fl s2 q => ?_
    cases fl with
    | ret v => exact q
    | next => exact q.elim
    | brk => exact q.elim
    | cont => exact q.elim
  | false => exact wpAny_execs_nil (hb.run pins s1 σ H1 R J q)
end
/-! ### behind a def's end its cells are known -/
section
variable {X : Cx} {pins : List (Addr × Obj)} {σ : L2.St} {H : Hp} {s : Shared}
theorem keep_cells (I : Inv X pins σ H s) (cab : ∀ x c, X.env.cells.lookup x = some c → X.s_0.heap.objs.size ≤ c) : ∀ (as : List (Str × Nat)) (ws : List V), (∀ a ∈ as, X.env.scope.names.lookup a.1 = some .cell ∧ X.N[a.2]? = some a.1) → (as.map (·.1)).Nodup → as.map (fun a => slotAt σ a.2) = ws.map some →
    ∃ H', Same H H' ∧ (∀ b, (∀ a ∈ as, X.env.cells.lookup a.1 ≠ some b) → H' b = H b) ∧ (∀ (i : Nat) a w, as[i]? = some a → ws[i]? = some w → ∃ c, X.env.cells.lookup a.1 = some c ∧ H c = none ∧ H' c = some (CellO c w)) ∧ Un X.fs X.ex X.H_0 H' X.s_0.heap s.heap ∧ HOk X.prog X.w H' s.heap
  | [], ws, _, _, _ => ⟨H, fun _ _ e => e, fun _ _ => rfl, fun i a w h => by simp at h, I.base, I.hok⟩
  | a :: as, ws, hk, nd, hw => by
    cases ws with
    | nil => cases hw
    | cons w ws =>
    rw [List.map_cons, List.map_cons, List.cons.injEq] at hw
    rw [List.map_cons, List.nodup_cons] at nd
    obtain ⟨H1, sm, off, at_, un, hok⟩ := keep_cells I cab as ws (fun b hb => hk b (List.mem_cons_of_mem _ hb)) nd.2 hw.2
    obtain ⟨kc, kn⟩ := hk a (List.mem_cons_self ..)
    obtain ⟨c, hc⟩ := I.ok.has a.1 (.inl kc)
    have nH : H c = none := I.freeC _ _ hc
    have n1 : H1 c = none := by
      rw [off c fun b hb z => nd.1 (List.mem_map.mpr ⟨b, hb, I.ok.inj _ _ _ z hc⟩)]
      exact nH
    obtain ⟨m, hns, hl⟩ := I.loc
    obtain ⟨u, ru, look⟩ := hl a.2 a.1 w kn (slotAt_some hw.1) (.inr (.inl kc))
    have cell : s.heap.IsCell c (some u) := by
      rcases look with ⟨z, _⟩ | ⟨_, c2, e2, z⟩
      · have z' : X.env.scope.names.lookup a.1 = some .local := z
        rw [kc] at z'
        cases z'
      · rw [hc] at e2
        cases e2
        exact z
    refine ⟨upd H1 c (CellO c w), fun b o e => ?_, fun b hb => ?_, fun i b v hi hv => ?_, ?_, fun b o e => ?_⟩
    · rw [upd_ne (ne_of_none e nH)]
      exact sm b o e
    · rw [upd_ne fun z => hb a (List.mem_cons_self ..) (by rw [z]; exact hc)]
      exact off b fun d hd => hb d (List.mem_cons_of_mem _ hd)
    · cases i with
      | zero =>
        cases hi
        cases hv
        exact ⟨c, hc, nH, upd_same⟩
      | succ i =>
        have hi' : as[i]? = some b := hi
        obtain ⟨d, h1, h2, h3⟩ := at_ i b v hi' hv
        refine ⟨d, h1, h2, ?_⟩
        rw [upd_ne fun z => nd.1 (List.mem_map.mpr ⟨b, List.mem_of_getElem? hi', I.ok.inj _ _ _ h1 (by rw [z]; exact hc)⟩)]
        exact h3
    · exact {
        keep := un.keep
        slot := un.slot
        free := fun b o e n hx => by
          rw [upd_ne fun z => Nat.lt_irrefl _ (Nat.lt_of_lt_of_le (Heap.lt_size e) (by rw [z]; exact cab _ _ hc))]
          exact un.free b o e n hx
        there := un.there
        tups := fun b xs q => by
          have t := un.tups b xs q
          rw [upd_ne (ne_of_none t n1)]; exact t
        frzs := fun b o v q => by
          have t := un.frzs b o v q
          rw [upd_ne (ne_of_none t n1)]; exact t
        tbls := fun b ps q => by
          obtain ⟨more, t⟩ := un.tbls b ps q
          exact ⟨more, by rw [upd_ne (ne_of_none t n1)]; exact t⟩ }
    · by_cases hb : b = c
      · cases hb
        rw [upd_same] at e
        cases e
        exact cellO_ok ru cell
      · rw [upd_ne hb] at e
        exact (hok b o e).stay (fun _ _ _ q => q) (fun d q => by rw [upd_ne (ne_of_none q n1)]; exact q) fun d xs q => by rw [upd_ne (ne_of_none q n1)]; exact q
end
/-- what is owed at a return of a def whose cells as live on (as1 of them hold something) -/
def Keeps (cells : List (Str × Addr)) (as : List (Str × Nat)) (Q : VK) : V → L2.St → Hp → Prop := fun v σ H => ∃ (as1 : List (Str × Nat)) (ws : List V), (∀ a ∈ as1, a ∈ as) ∧ (as1.map (·.1)).Nodup ∧ as1.map (fun a => slotAt σ a.2) = ws.map some ∧
  ∀ H', (∀ x y c, cells.lookup x = some c → cells.lookup y = some c → x = y) → Same H H' → (∀ (i : Nat) a w, as1[i]? = some a → ws[i]? = some w → ∃ c, cells.lookup a.1 = some c ∧ H c = none ∧ H' c = some (CellO c w)) → Q v H'
section
variable {P : Program} {w : World} {K : PySem.W.Frag} {mg : Str → Option Value} {base : Heap}
/-- a def by its text, its cells kept -/
theorem DefAt.calK {x : Str} {st : Stmt} {N ps : List Str} {k : Nat} {sp : Sp} {as : List (Str × Nat)} (d : DefAt K mg x st ps) (S : FnScope N ps (defScope st)) (len : ∀ vs H Q E, sp vs H Q E → vs.length = ps.length) (hk : ∀ a ∈ as, (defScope st).names.lookup a.1 = some .cell ∧ N[a.2]? = some a.1)
    (hbody : ∀ (f : Addr) (cdv : Value) (A : Around) (outer : List Env) (s : Shared) (H : Hp) (vs : List V) (Q : VK) (E : XK), Room k (A.deeper (envOfC x (defScope st) s.heap.objs.size f cdv)) → PySem.W.codeIn K cdv x = true → sp vs H Q E →
      ∃ t, PSR (cxOf CX0 P w K mg base N x (defScope st) f cdv A outer s H E) (defBody st) t ∧ t (Keeps (cellsFrom (s.heap.objs.size + 1) (defScope st).names []) as Q) (start N vs) H) : Cal P w K mg base (k + 1) x sp := by
  obtain ⟨f, fd, F, hm, b⟩ := d.ex
  refine ⟨f, fd, ps, ?_, hm, F.kp, b⟩
  obtain ⟨oc, od, kV, doc, pm, an, cdv, ct, osl, rfl, lk, hcd⟩ := F.ex
  refine ⟨len, fun A outer s H args us vs Q E hr e0 hb r hsp => ?_⟩
  have inK : K.In s.heap := e0.mod.kin.keeps fun b o e => (e0.bs b o e).1
  have free : s.heap.NoLimit := e0.mod.nolimit.keeps fun b o e => (e0.bs b o e).1
  have kinds : ∀ y ∈ ps.zip us, (defScope st).names.lookup y.1 = some .local ∨ ((defScope st).names.lookup y.1 = some .cell ∧ ((cellsFrom (s.heap.objs.size + 1) (defScope st).names []).lookup y.1).isSome = true) := fun y hy => by
    obtain ⟨n, v⟩ := y
    exact (S.par n (List.of_mem_zip hy).1).imp id fun z => ⟨z, PySem.W.cellsFrom_some _ _ _ (.inl z)⟩
  refine codeAny_call_function hr.depth (inK _ _ lk) rfl S.co S.gen rfl (PySem.W.codeRec_of inK hcd) (hb _ _ _ _ ?_)
  refine wpAny_newFunctionEnv_cells S.kind kinds fun env he s1 y => ?_
  subst he
  refine ⟨free.keeps y.toInCall.keep, codeAny_func ?_⟩
  obtain ⟨t, ht, hq⟩ := hbody f cdv A outer s H vs Q E (hr.deeper _) hcd hsp
  have I : Inv (cxOf CX0 P w K mg base N x (defScope st) f cdv A outer s H E) [] (start N vs) H s1 := inv_start S hr.hd e0 (len _ _ _ _ hsp) r y
  refine wpAny_mono (ht.run [] s1 (start N vs) H _ I hq) (fun fl s2 hs => ?_) fun e s2 hs => hs
  cases fl with
  | ret u =>
    obtain ⟨v, σ', H', J, rv, as1, ws, sub, nd, hw, q⟩ := hs
    obtain ⟨H2, sm, _, at_, un, hok⟩ := keep_cells J (fun z c hz => J.ok.cab z c rfl hz) as1 ws (fun a ha => hk a (sub a ha)) nd hw
    exact ⟨v, H2, J.os, J.bare, un, hok, rv, q H2 (fun x y c e1 e2 => J.ok.inj x y c e1 e2) sm at_⟩
  | next => exact hs.elim
  | brk => exact hs.elim
  | cont => exact hs.elim
end
/-! ### a kept lambda called -/
def isC (cl : List (Str × Addr)) (fr : List Str) (b : Addr) : Bool := fr.any fun y => decide (cl.lookup y = some b)
/-- all but the cells -/
def dropC (cl : List (Str × Addr)) (fr : List Str) (H : Hp) : Hp := fun b => if isC cl fr b = true then none else H b
/-- the cells as they were -/
def backC (cl : List (Str × Addr)) (fr : List Str) (H H1 : Hp) : Hp := fun b => if isC cl fr b = true then H b else H1 b
/-- a lambda's cells are known: fr, the captured names; ws, what their cells hold -/
structure HeldC (cl : List (Str × Addr)) (fr : List Str) (ws : List V) (H : Hp) : Prop where
  len : ws.length = fr.length
  has : ∀ (i : Nat) y, fr[i]? = some y → ∃ c w, cl.lookup y = some c ∧ ws[i]? = some w ∧ H c = some (CellO c w)
  all : ∀ y c, cl.lookup y = some c → y ∈ fr
  inj : ∀ x y c, cl.lookup x = some c → cl.lookup y = some c → x = y
theorem isC_iff {cl : List (Str × Addr)} {fr : List Str} {b : Addr} : isC cl fr b = true ↔ ∃ y ∈ fr, cl.lookup y = some b := by
  unfold isC
  rw [List.any_eq_true]
  exact ⟨fun ⟨y, h1, h2⟩ => ⟨y, h1, of_decide_eq_true h2⟩, fun ⟨y, h1, h2⟩ => ⟨y, h1, decide_eq_true h2⟩⟩
theorem HeldC.at {cl : List (Str × Addr)} {fr : List Str} {ws : List V} {H : Hp} (C : HeldC cl fr ws H) {b : Addr} (h : isC cl fr b = true) : ∃ w, H b = some (CellO b w) := by
  obtain ⟨y, hy, e⟩ := isC_iff.mp h
  obtain ⟨i, hi⟩ := List.mem_iff_getElem?.mp hy
  obtain ⟨c, w, h1, _, h3⟩ := C.has i y hi
  rw [e] at h1
  cases h1
  exact ⟨w, h3⟩
theorem HeldC.off {cl : List (Str × Addr)} {fr : List Str} {ws : List V} {H : Hp} (C : HeldC cl fr ws H) {b : Addr} {o : HO} (e : H b = some o) (n : ∀ φ, o ≠ .ext φ) : isC cl fr b = false := by
  cases h : isC cl fr b with
  | false => rfl
  | true =>
    obtain ⟨w, z⟩ := C.at h
    rw [e] at z
    exact absurd (Option.some.inj z) (n _)
theorem HeldC.offN {cl : List (Str × Addr)} {fr : List Str} {ws : List V} {H : Hp} (C : HeldC cl fr ws H) {b : Addr} (e : H b = none) : isC cl fr b = false := by
  cases h : isC cl fr b with
  | false => rfl
  | true =>
    obtain ⟨w, z⟩ := C.at h
    rw [e] at z
    cases z
/-- fr are just the free ones of the names -/
def frIs (fr : List Str) (names : List (Str × NameKind)) : Bool := (fr.all fun y => names.any fun z => decide (z.1 = y) && decide (z.2 = .free)) && names.all fun z => !decide (z.2 = .free) || decide (z.1 ∈ fr)
theorem frIs_ok {fr : List Str} {names : List (Str × NameKind)} (h : frIs fr names = true) : ∀ y, y ∈ fr ↔ (y, NameKind.free) ∈ names := fun y => by
  unfold frIs at h
  simp only [Bool.and_eq_true, List.all_eq_true, List.any_eq_true, decide_eq_true_eq, Bool.or_eq_true, Bool.not_eq_true', decide_eq_false_iff_not] at h
  constructor
  · intro hy
    obtain ⟨z, hz, e1, e2⟩ := h.1 y hy
    obtain ⟨a, b⟩ := z
    cases e1
    cases e2
    exact hz
  · intro hy
    exact (h.2 _ hy).elim (fun z => absurd rfl z) id
/-- a lambda made by a def whose cells are kept: its cells are known -/
theorem heldC_of {cells : List (Str × Addr)} {names : List (Str × NameKind)} {fr : List Str} {ws : List V} {H : Hp} (inj : ∀ x y c, cells.lookup x = some c → cells.lookup y = some c → x = y) (hfr : ∀ y, y ∈ fr ↔ (y, NameKind.free) ∈ names) (len : ws.length = fr.length)
    (hat : ∀ (i : Nat) y w, fr[i]? = some y → ws[i]? = some w → ∃ c, cells.lookup y = some c ∧ H c = some (CellO c w)) : HeldC (cloFrom cells names []) fr ws H := by
  have has : ∀ (i : Nat) y, fr[i]? = some y → ∃ c w, cells.lookup y = some c ∧ ws[i]? = some w ∧ H c = some (CellO c w) := fun i y e => by
    have lt : i < ws.length := by
      rw [len]
      exact (List.getElem?_eq_some_iff.mp e).1
    obtain ⟨c, h1, h2⟩ := hat i y _ e (List.getElem?_eq_getElem lt)
    exact ⟨c, _, h1, List.getElem?_eq_getElem lt, h2⟩
  have key : ∀ y c, (cloFrom cells names []).lookup y = some c → y ∈ fr ∧ cells.lookup y = some c := fun y c e => by
    rcases cloFrom_mem (PySem.mem_of_lookup e) with hm | ⟨h1, h2⟩
    · cases hm
    · have hy := (hfr y).mpr h1
      obtain ⟨i, hi⟩ := List.mem_iff_getElem?.mp hy
      obtain ⟨c1, _, e1, _, _⟩ := has i y hi
      rw [e1] at h2
      exact ⟨hy, by rw [e1, h2]; rfl⟩
  have back : ∀ y c, y ∈ fr → cells.lookup y = some c → (cloFrom cells names []).lookup y = some c := fun y c hy e => by
    obtain ⟨c1, hc1⟩ := mem_lookup (cloFrom_has (cells := cells) (acc := []) ((hfr y).mp hy))
    rw [hc1, (key y c1 hc1).2.symm.trans e]
  exact {
    len := len
    has := fun i y e => by
      obtain ⟨c, w, h1, h2, h3⟩ := has i y e
      exact ⟨c, w, back y c (List.mem_of_getElem? e) h1, h2, h3⟩
    all := fun y c e => (key y c e).1
    inj := fun x y c e1 e2 => inj x y c (key x c e1).2 (key y c e2).2 }
theorem drop_off {cl : List (Str × Addr)} {fr : List Str} {H : Hp} {b : Addr} (h : isC cl fr b = false) : dropC cl fr H b = H b := by
  unfold dropC
  rw [h]
  rfl
theorem drop_some {cl : List (Str × Addr)} {fr : List Str} {H : Hp} {b : Addr} {o : HO} (h : dropC cl fr H b = some o) : isC cl fr b = false ∧ H b = some o := by
  unfold dropC at h
  cases e : isC cl fr b with
  | true => rw [e, if_pos rfl] at h; cases h
  | false => rw [e] at h; exact ⟨rfl, h⟩
theorem back_off {cl : List (Str × Addr)} {fr : List Str} {H H1 : Hp} {b : Addr} (h : isC cl fr b = false) : backC cl fr H H1 b = H1 b := by
  unfold backC
  rw [h]
  rfl
theorem back_on {cl : List (Str × Addr)} {fr : List Str} {H H1 : Hp} {b : Addr} (h : isC cl fr b = true) : backC cl fr H H1 b = H b := by
  unfold backC
  rw [h]
  rfl
section
variable {P : Program} {w : World} {K : PySem.W.Frag} {mg : Str → Option Value} {base : Heap}
theorem hok_drop {cl : List (Str × Addr)} {fr : List Str} {ws : List V} {H : Hp} {h : Heap} (C : HeldC cl fr ws H) (ok : HOk P w H h) : HOk P w (dropC cl fr H) h := fun b o e => by
  obtain ⟨_, e1⟩ := drop_some e
  exact (ok b o e1).stay (fun _ _ _ q => q) (fun d q => (drop_off (C.off q fun _ z => nomatch z)).trans q) fun d xs q => (drop_off (C.off q fun _ z => nomatch z)).trans q
theorem cells_held {cl : List (Str × Addr)} {fr : List Str} {ws : List V} {H : Hp} {h : Heap} (C : HeldC cl fr ws H) (ok : HOk P w H h) : CellsAt cl fr (ws.map some) h (dropC cl fr H) where
  len := by rw [List.length_map]; exact C.len
  all := fun y c e => by
    have hc : isC cl fr c = true := isC_iff.mpr ⟨y, C.all y c e, e⟩
    obtain ⟨v, hv⟩ := C.at hc
    obtain ⟨u, _, z⟩ := cellO_at ok hv
    exact ⟨by unfold dropC; rw [hc]; rfl, _, z⟩
  inj := C.inj
  has := fun i y e => by
    obtain ⟨c, v, h1, h2, h3⟩ := C.has i y e
    obtain ⟨u, r, z⟩ := cellO_at ok h3
    refine ⟨c, h1, fun v' e' => ?_⟩
    rw [List.getElem?_map, h2] at e'
    cases e'
    exact ⟨u, r, z⟩
/-- what a lambda promises: sp ws, ws what its cells hold -/
structure LOk (P : Program) (w : World) (K : PySem.W.Frag) (mg : Str → Option Value) (base : Heap) (k : Nat) (q : Str) (params : Arguments) (body : Expr) (scope : Scope) (fr : List Str) (sp : List V → Hp → VK → Prop) : Prop where
  run : ∀ (f c : Addr) (cl : List (Str × Addr)) (A : Around) (outer : List Env) (s : Shared) (H : Hp) (ws : List V) (Q : VK), Room k A → Env0 P w K mg base A outer s H → H f = some (LamO f ⟨q, params, body, scope, cl, c⟩) → H c = some (CodeO c q) →
    CellsAt cl fr (ws.map some) s.heap H → sp ws H Q → codeAny (model P w) A (.call (.ref f) ⟨[], []⟩) (CR CX0 outer P w H s Q fun _ _ _ => False) s
/-- a lambda by its body -/
theorem lok_of {N fr : List Str} {k : Nat} {q : Str} {params : Arguments} {body : Expr} {scope : Scope} {sp : List V → Hp → VK → Prop} (S : NScope N [] fr scope) (hb : ∀ (cl : List (Str × Addr)) (c : Addr) (pm ctv : Value), bindArgs (PySem.W.kla_fn "<lambda>" q params body scope cl pm (.ref c) ctv) ⟨[], []⟩ = pure [])
    (hbody : ∀ (f c : Addr) (cl : List (Str × Addr)) (A : Around) (outer : List Env) (s : Shared) (H : Hp) (ws : List V) (Q : VK), Room k (A.deeper (envF ⟨"<lambda>", q, params, [], scope, cl, c⟩ f s.heap.objs.size)) → ws.length = fr.length → sp ws H Q →
      ∃ t, PE (ncx CX0 P w K mg base N ⟨"<lambda>", q, params, [], scope, cl, c⟩ f A outer s H fun _ _ _ => False) body t ∧ t (startF N [] (ws.map some)) H Q) : LOk P w K mg base (k + 1) q params body scope fr sp := by
  constructor
  intro f c cl A outer s H ws Q hr e0 hf hc C h
  have lim : s.heap.NoLimit := e0.mod.nolimit.keeps fun b o e => (e0.bs b o e).1
  obtain ⟨⟨pm, ctv, ho⟩, _⟩ := e0.hok f _ hf
  refine PySem.W.kla_callFunE hr.depth ho rfl S.co S.gen rfl (codeO_at e0.hok hc) ?_
  rw [hb cl c pm ctv]
  refine wpAny_pure (wpAny_newFunctionEnv S.nocell (fun y hy => absurd hy (by simp)) (fun g hns hsb => ⟨lim.fresh _ hsb, ?_⟩) S.kind)
  show codeAny _ _ (.expr body (envF ⟨"<lambda>", q, params, [], scope, cl, c⟩ f s.heap.objs.size)) _ _
  have kp : ∀ b o, s.heap.get? b = some o → g.get? b = some o := fun b o e => hsb.extBut b o (Nat.ne_of_lt (Heap.lt_size e)) (Heap.get?_push_of_some _ e)
  have wl := C.len
  rw [List.length_map] at wl
  obtain ⟨t, ht, hq⟩ := hbody f c cl A outer s H ws Q (hr.deeper _) wl h
  have I : Inv (ncx CX0 P w K mg base N ⟨"<lambda>", q, params, [], scope, cl, c⟩ f A outer s H fun _ _ _ => False) [] (startF N [] (ws.map some)) H { s with heap := g, toks := s.toks + ([] : List (Str × Value)).length } := inv_startN (ps := []) (us := []) S hr.hd e0 rfl .nil C hns kp
  refine PySem.W.kla_codeExpr (wpAny_mono (ht.run [] _ _ H Q I hq) (fun v s' hv => ?_) fun e s' he => he)
  obtain ⟨x, H', J, rv, hx⟩ := hv
  exact ⟨x, H', J.os, J.bare, J.base, J.hok, rv, hx⟩
end
/-- x(), x a name that holds a kept lambda -/
def tClo (q : Str) (params : Arguments) (body : Expr) (scope : Scope) (fr : List Str) (i : Nat) (sp : List V → Hp → VK → Prop) : TE := fun σ H Q => ∃ (f c : Addr) (cl : List (Str × Addr)) (ws : List V), σ[i]? = some (some (.ref f)) ∧ H f = some (LamO f ⟨q, params, body, scope, cl, c⟩) ∧ H c = some (CodeO c q) ∧ isC cl fr f = false ∧ isC cl fr c = false ∧
  HeldC cl fr ws H ∧ sp ws (dropC cl fr H) fun v H1 => (∀ b, isC cl fr b = true → H1 b = none) → Q v (backC cl fr H H1)
theorem lam_fn {X : Cx} {pins : List (Addr × Obj)} {σ : L2.St} {H : Hp} {s : Shared} {f : Addr} {F : LF} (I : Inv X pins σ H s) (e : H f = some (LamO f F)) : PySem.W.FnAt f s.heap := by
  obtain ⟨⟨pm, ctv, ho⟩, _⟩ := I.hok f _ e
  exact ⟨_, _, _, _, ho⟩
theorem pe_clo {X : Cx} {q : Str} {params : Arguments} {body : Expr} {scope : Scope} {fr : List Str} {i j k : Nat} {x : Str} {sp : List V → Hp → VK → Prop} {p pos : Pos} (L : LOk X.prog X.w X.K X.mg X.base k q params body scope fr sp) (hr : Room j X.A) (hk : k ≤ j) (hN : X.N[i]? = some x) (hv : Vis X.env.scope x)
    (hd : (x == ("__debug__" : Str)) = false := by decide) (hcd : (x == ("__classdict__" : Str)) = false := by decide) : PE X (.Call (.Name x p) [] [] pos) (tClo q params body scope fr i sp) := by
  constructor
  intro pins s σ H Q I h
  obtain ⟨f, c, cl, ws, hs, hf, hc, nf, nc, C, hq⟩ := h
  refine wpAny_Call_Name_kw (thn ((pe_var (pos := p) hN hv hd hcd).run pins s σ H (fun v H1 => v = .ref f ∧ H1 = H) I ⟨.ref f, hs, rfl, rfl⟩) fun u s1 ⟨v, H1, I1, r1, ev, eH⟩ => ?_)
  subst ev
  rw [eH] at I1
  obtain rfl : u = Value.ref f := r1
  refine PySem.W.callWith_F0 (first := []) (lam_fn I1 hf) ?_
  show wpAny _ _ (call (.ref f) []) _ _ _
  have e0 := I1.env0
  have e1 : Env0 X.prog X.w X.K X.mg X.base X.A X.stack s1 (dropC cl fr H) := ⟨e0.frames, e0.mod, fun b o e => ⟨(e0.bs b o e).1, by rw [drop_off (C.offN (e0.bs b o e).2)]; exact (e0.bs b o e).2⟩, e0.bsz, e0.funs, fun b hb => by rw [drop_off (C.offN (e0.frf b hb))]; exact e0.frf b hb, hok_drop C e0.hok, e0.bare⟩
  refine wpAny_call (codeAny_mono (L.run f c cl X.A X.stack s1 (dropC cl fr H) ws _ (hr.mono hk) e1 ((drop_off nf).trans hf) ((drop_off nc).trans hc) (cells_held C I1.hok) hq) fun r s2 hq => ?_)
  cases r with
  | error e => exact hq.elim
  | ok fl =>
    cases fl with
    | next => exact hq.elim
    | brk => exact hq.elim
    | cont => exact hq.elim
    | ret u =>
      obtain ⟨v, H2, os, bare, un, hok, rv, hv⟩ := hq
      have gone : ∀ b, isC cl fr b = true → H2 b = none := fun b hb => by
        obtain ⟨y, z⟩ := C.at hb
        obtain ⟨_, ⟨o, ho⟩, _⟩ := I1.hok b _ z
        exact un.free b o ho (by unfold dropC; rw [hb]; rfl) (by simp)
      refine I1.after ⟨v, backC cl fr H H2, os, bare, ?_, fun b o e => ?_, rv, hv gone⟩
      · exact {
          keep := fun b o e n => un.keep b o e (by rw [drop_off (C.offN n)]; exact n)
          slot := fun b o e n => un.slot b o e (by rw [drop_off (C.offN n)]; exact n)
          free := fun b o e n hx => by
            rw [back_off (C.offN n)]
            exact un.free b o e (by rw [drop_off (C.offN n)]; exact n) hx
          there := un.there
          tups := fun b xs e => by
            have z := C.off e fun _ z => nomatch z
            rw [back_off z]
            exact un.tups b xs (by rw [drop_off z]; exact e)
          frzs := fun b o u e => by
            have z := C.off e fun _ z => nomatch z
            rw [back_off z]
            exact un.frzs b o u (by rw [drop_off z]; exact e)
          tbls := fun b ps e => by
            have z := C.off e fun _ z => nomatch z
            obtain ⟨more, t⟩ := un.tbls b ps (by rw [drop_off z]; exact e)
            exact ⟨more, by rw [back_off z]; exact t⟩ }
      · cases hb : isC cl fr b with
        | true =>
          rw [back_on hb] at e
          obtain ⟨v', hv'⟩ := C.at hb
          rw [hv'] at e
          cases e
          obtain ⟨u', r', o, ho, hdt⟩ := cellO_at I1.hok hv'
          refine cellO_ok r' ⟨o, un.keep b o ho (by unfold dropC; rw [hb]; rfl) (fun z => ?_) (by simp), hdt⟩
          have z2 := e0.frf b z
          rw [hv'] at z2
          cases z2
        | false =>
          rw [back_off hb] at e
          have live : ∀ d u, H2 d = some u → backC cl fr H H2 d = some u := fun d u q => by
            cases hd : isC cl fr d with
            | true => rw [gone d hd] at q; cases q
            | false => rw [back_off hd]; exact q
          exact (hok b o e).stay (fun _ _ _ q => q) (fun d q => live d _ q) fun d xs q => live d _ q
/-! a cell is no code object, no function -/
theorem rep_get {ob : Obj} (n : ob.data ≠ .freed) (m a : Nat) : ({ objs := Array.replicate m ob } : Heap).get? a = if a < m then some ob else none := by
  unfold Heap.get?
  rw [Array.getElem?_replicate]
  split
  · split
    · exact absurd (show ob.data = .freed from by simp_all) n
    · rfl
  · rfl
theorem cell_code {c a : Addr} {q : Str} {v : V} : CodeO a q ≠ CellO c v := fun z => by
  have hz := HO.ext.inj z
  let ob : Obj := { cls := .none, data := .fields #[.none, .str q default] }
  let h : Heap := { objs := Array.replicate (a + 1) ob }
  have nf : ob.data ≠ .freed := fun z => nomatch z
  have h1 : (fun h : Heap => ∃ u, RelV v u ∧ h.IsCell c (some u)) h := by
    rw [← hz]
    exact ⟨ob, _, default, (rep_get nf (a + 1) a).trans (if_pos (Nat.lt_succ_self a)), rfl, rfl⟩
  obtain ⟨u, _, o, ho, hd⟩ := h1
  have := (rep_get nf (a + 1) c).symm.trans ho
  split at this
  · cases this
    cases hd
  · cases this
theorem cell_lam {c f : Addr} {F : LF} {v : V} : LamO f F ≠ CellO c v := fun z => by
  have hz := HO.ext.inj z
  let ob : Obj := PySem.W.kla_obj "<lambda>" F.qual F.params F.body F.scope F.cl .none F.c .none
  let h : Heap := { objs := Array.replicate (f + 1) ob }
  have nf : ob.data ≠ .freed := fun z => nomatch z
  have h1 : (fun h : Heap => ∃ u, RelV v u ∧ h.IsCell c (some u)) h := by
    rw [← hz]
    exact ⟨.none, .none, (rep_get nf (f + 1) f).trans (if_pos (Nat.lt_succ_self f))⟩
  obtain ⟨u, _, o, ho, hd⟩ := h1
  have := (rep_get nf (f + 1) c).symm.trans ho
  split at this
  · cases this
    cases hd
  · cases this
theorem HeldC.offE {cl : List (Str × Addr)} {fr : List Str} {ws : List V} {H : Hp} (C : HeldC cl fr ws H) {b : Addr} {o : HO} (e : H b = some o) (n : ∀ v, o ≠ CellO b v) : isC cl fr b = false := by
  cases h : isC cl fr b with
  | false => rfl
  | true =>
    obtain ⟨w, z⟩ := C.at h
    rw [e] at z
    exact absurd (Option.some.inj z) (n _)
theorem tabs_drop {T : List (Addr × Str)} {cl : List (Str × Addr)} {fr : List Str} {ws : List V} {H : Hp} (C : HeldC cl fr ws H) (h : Tabs T H) : Tabs T (dropC cl fr H) := fun p hp => by
  obtain ⟨ps, e1, ok, k⟩ := h p hp
  refine ⟨ps, (drop_off (C.off e1 fun _ z => nomatch z)).trans e1, ok, fun pos cv hc => ?_⟩
  obtain ⟨c, rfl, e⟩ := k pos cv hc
  exact ⟨c, rfl, (drop_off (C.offE e fun _ => cell_code)).trans e⟩
/-- at f is a lambda; its cells hold ws -/
def LamAt (q : Str) (params : Arguments) (body : Expr) (scope : Scope) (fr : List Str) (ws : List V) (f : Addr) (H : Hp) : Prop :=
  ∃ (c : Addr) (cl : List (Str × Addr)), H f = some (LamO f ⟨q, params, body, scope, cl, c⟩) ∧ H c = some (CodeO c q) ∧ HeldC cl fr ws H
theorem LamAt.ext {q : Str} {params : Arguments} {body : Expr} {scope : Scope} {fr : List Str} {ws : List V} {f : Addr} {H H' : Hp} (L : LamAt q params body scope fr ws f H) (e : ExtN H H') : LamAt q params body scope fr ws f H' := by
  obtain ⟨c, cl, h1, h2, C⟩ := L
  exact ⟨c, cl, e _ _ h1 (fun _ z => nomatch z), e _ _ h2 codeO_ne, ⟨C.len, fun i y z => by
    obtain ⟨c, w, a1, a2, a3⟩ := C.has i y z
    exact ⟨c, w, a1, a2, e _ _ a3 (fun _ z => nomatch z)⟩, C.all, C.inj⟩⟩
/-- such a lambda is called -/
theorem L_clo {q : Str} {params : Arguments} {body : Expr} {scope : Scope} {fr : List Str} {i : Nat} {sp : List V → Hp → VK → Prop} {σ : L2.St} {H : Hp} {Q : VK} {f : Addr} {ws : List V} (L : LamAt q params body scope fr ws f H) (hs : σ[i]? = some (some (.ref f)))
    (k : ∀ Hd : Hp, (∀ b o, Hd b = some o → H b = some o) → (∀ b o, H b = some o → (∀ φ, o ≠ .ext φ) → Hd b = some o) → (∀ T, Tabs T H → Tabs T Hd) → sp ws Hd fun v H1 => ∀ H2 : Hp, Same H1 H2 → (ExtN Hd H1 → ExtN H H2) → Q v H2)
    (mono : ∀ H (Q Q' : VK), sp ws H Q → (∀ v H1, Q v H1 → Q' v H1) → sp ws H Q') : tClo q params body scope fr i sp σ H Q := by
  obtain ⟨c, cl, h1, h2, C⟩ := L
  refine ⟨f, c, cl, ws, hs, h1, h2, C.offE h1 fun _ => cell_lam, C.offE h2 fun _ => cell_code, C, ?_⟩
  refine mono _ _ _ (k (dropC cl fr H) (fun b o e => (drop_some e).2) (fun b o e n => (drop_off (C.off e n)).trans e) fun T => tabs_drop C) fun v H1 hv gone => hv _ (fun b o e => ?_) fun ex b o e n => ?_
  · cases hb : isC cl fr b with
    | true => rw [gone b hb] at e; cases e
    | false => exact (back_off hb).trans e
  · cases hb : isC cl fr b with
    | true => exact (back_on hb).trans e
    | false => exact (back_off hb).trans (ex b o ((drop_off hb).trans e) n)
theorem tClo_at {q : Str} {params : Arguments} {body : Expr} {scope : Scope} {fr : List Str} {i : Nat} {sp : List V → Hp → VK → Prop} {σ : L2.St} {H : Hp} {Q : VK} {f : Addr} (h : tClo q params body scope fr 0 sp [some (.ref f)] H Q) (hs : σ[i]? = some (some (.ref f))) : tClo q params body scope fr i sp σ H Q := by
  obtain ⟨g, c, cl, ws, e, r⟩ := h
  cases e
  exact ⟨f, c, cl, ws, hs, r⟩
theorem tabs_nil {cs : List (Addr × Addr)} {T : List (Addr × Str)} {H : Hp} (h : ∀ p ∈ cs, H p.2 = some (.tbl #[])) (hs : ∀ t ∈ T, ∃ p ∈ cs, p.2 = t.1) : Tabs T H := fun t ht => by
  obtain ⟨p, hp, e⟩ := hs t ht
  exact .nil (by rw [← e]; exact h p hp)
theorem ncx_K {CX : CXT} {P : Program} {w : World} {K : PySem.W.Frag} {mg : Str → Option Value} {base : Heap} {N : List Str} {F : NF} {f : Addr} {A : Around} {outer : List Env} {s : Shared} {H : Hp} {E : XK} : (ncx CX P w K mg base N F f A outer s H E).K = K := rfl
theorem ncx_mg {CX : CXT} {P : Program} {w : World} {K : PySem.W.Frag} {mg : Str → Option Value} {base : Heap} {N : List Str} {F : NF} {f : Addr} {A : Around} {outer : List Env} {s : Shared} {H : Hp} {E : XK} : (ncx CX P w K mg base N F f A outer s H E).mg = mg := rfl
/-! ### makers: defs that make lambdas -/
/-- the code object of the def that a name of the module holds; its table -/
def cF (K : PySem.W.Frag) (mg : Str → Option Value) (x : Str) : Addr := match mg x with
  | some (.ref f) => match K.lookup f with
    | some ⟨_, _, .func fd, _⟩ => match fd.code with
      | .ref c => c
      | _ => 0
    | _ => 0
  | _ => 0
def pK (K : PySem.W.Frag) (c : Addr) : Addr := match K.lookup c with
  | some ⟨_, _, .fields vs, _⟩ => match (vs[11]? : Option Value) with
    | some (.ref P) => P
    | _ => 0
  | _ => 0
abbrev pF (K : PySem.W.Frag) (mg : Str → Option Value) (x : Str) : Addr := pK K (cF K mg x)
structure DefC (K : PySem.W.Frag) (mg : Str → Option Value) (x : Str) (st : Stmt) (ps : List Str) : Prop where
  ex : ∃ (f : Addr) (oc : Value) (od : Option Addr) (kV doc pm : Value) (an : Option Addr) (ct : Value) (osl : Array (Option Value)),
    K.lookup f = some ⟨oc, od, .func (PySem.W.fnOf x x (defArgs st) (defBody st) (defScope st) .none kV doc pm an (.ref (cF K mg x)) ct), osl⟩ ∧ PySem.W.codeIn K (.ref (cF K mg x)) x = true ∧ PySem.W.keepIn K (.ref f) = true ∧ mg x = some (.ref f) ∧ Binds K (PySem.W.fnOf x x (defArgs st) (defBody st) (defScope st) .none kV doc pm an (.ref (cF K mg x)) ct) ps []
theorem cF_of {K : PySem.W.Frag} {mg : Str → Option Value} {x : Str} {f c : Addr} {oc : Value} {od : Option Addr} {fd : FuncData} {osl : Array (Option Value)} (hm : mg x = some (.ref f)) (hl : K.lookup f = some ⟨oc, od, .func fd, osl⟩) (hc : fd.code = .ref c) : cF K mg x = c := by
  unfold cF
  rw [hm]
  show (match K.lookup f with | some ⟨_, _, .func fd, _⟩ => (match fd.code with | .ref c => c | _ => 0) | _ => 0) = c
  rw [hl]
  show (match fd.code with | .ref c => c | _ => 0) = c
  rw [hc]
section
variable {P : Program} {w : World} {K : PySem.W.Frag} {mg : Str → Option Value} {base : Heap}
theorem DefC.calK {x : Str} {st : Stmt} {N ps : List Str} {k : Nat} {sp : Sp} {as : List (Str × Nat)} (d : DefC K mg x st ps) (S : FnScope N ps (defScope st)) (len : ∀ vs H Q E, sp vs H Q E → vs.length = ps.length) (hk : ∀ a ∈ as, (defScope st).names.lookup a.1 = some .cell ∧ N[a.2]? = some a.1)
    (hbody : ∀ (f : Addr) (A : Around) (outer : List Env) (s : Shared) (H : Hp) (vs : List V) (Q : VK) (E : XK), Room k (A.deeper (envOfC x (defScope st) s.heap.objs.size f (.ref (cF K mg x)))) → sp vs H Q E →
      ∃ t, PSR (cxOf CX0 P w K mg base N x (defScope st) f (.ref (cF K mg x)) A outer s H E) (defBody st) t ∧ t (Keeps (cellsFrom (s.heap.objs.size + 1) (defScope st).names []) as Q) (start N vs) H) : Cal P w K mg base (k + 1) x sp := by
  obtain ⟨f, oc, od, kV, doc, pm, an, ct, osl, lk, hcd, kp, hm, b⟩ := d.ex
  refine ⟨f, _, ps, ⟨len, fun A outer s H args us vs Q E hr e0 hb r hsp => ?_⟩, hm, kp, b⟩
  have inK : K.In s.heap := e0.mod.kin.keeps fun b o e => (e0.bs b o e).1
  have free : s.heap.NoLimit := e0.mod.nolimit.keeps fun b o e => (e0.bs b o e).1
  have kinds : ∀ y ∈ ps.zip us, (defScope st).names.lookup y.1 = some .local ∨ ((defScope st).names.lookup y.1 = some .cell ∧ ((cellsFrom (s.heap.objs.size + 1) (defScope st).names []).lookup y.1).isSome = true) := fun y hy => by
    obtain ⟨n, v⟩ := y
    exact (S.par n (List.of_mem_zip hy).1).imp id fun z => ⟨z, PySem.W.cellsFrom_some _ _ _ (.inl z)⟩
  refine codeAny_call_function hr.depth (inK _ _ lk) rfl S.co S.gen rfl (PySem.W.codeRec_of inK hcd) (hb _ _ _ _ ?_)
  refine wpAny_newFunctionEnv_cells S.kind kinds fun env he s1 y => ?_
  subst he
  refine ⟨free.keeps y.toInCall.keep, codeAny_func ?_⟩
  obtain ⟨t, ht, hq⟩ := hbody f A outer s H vs Q E (hr.deeper _) hsp
  have I : Inv (cxOf CX0 P w K mg base N x (defScope st) f (.ref (cF K mg x)) A outer s H E) [] (start N vs) H s1 := inv_start S hr.hd e0 (len _ _ _ _ hsp) r y
  refine wpAny_mono (ht.run [] s1 (start N vs) H _ I hq) (fun fl s2 hs => ?_) fun e s2 hs => hs
  cases fl with
  | ret u =>
    obtain ⟨v, σ', H', J, rv, as1, ws, sub, nd, hw, q⟩ := hs
    obtain ⟨H2, sm, _, at_, un, hok⟩ := keep_cells J (fun z c hz => J.ok.cab z c rfl hz) as1 ws (fun a ha => hk a (sub a ha)) nd hw
    exact ⟨v, H2, J.os, J.bare, un, hok, rv, q H2 (fun x y c e1 e2 => J.ok.inj x y c e1 e2) sm at_⟩
  | next => exact hs.elim
  | brk => exact hs.elim
  | cont => exact hs.elim
end
/-- where a recursion ends: nothing is promised -/
theorem DefC.calF {P : Program} {w : World} {K : PySem.W.Frag} {mg : Str → Option Value} {base : Heap} {x : Str} {st : Stmt} {ps : List Str} {k : Nat} (d : DefC K mg x st ps) : Cal P w K mg base k x (fun _ _ _ _ => False) := by
  obtain ⟨f, oc, od, kV, doc, pm, an, ct, osl, lk, hcd, kp, hm, b⟩ := d.ex
  exact ⟨f, _, ps, ⟨fun _ _ _ _ h => h.elim, fun _ _ _ _ _ _ _ _ _ _ _ _ _ h => h.elim⟩, hm, kp, b⟩
/-! ### a heap that grows, code tables too -/
structure Ev (T : List (Addr × Str)) (H H' : Hp) : Prop where
  ex : ExtN H H'
  tb : Tabs T H → Tabs T H'
theorem Ev.refl {T : List (Addr × Str)} {H : Hp} : Ev T H H := ⟨.refl _, id⟩
theorem Ev.trans {T : List (Addr × Str)} {H H1 H2 : Hp} (a : Ev T H H1) (b : Ev T H1 H2) : Ev T H H2 := ⟨a.ex.trans b.ex, fun t => b.tb (a.tb t)⟩
theorem Ev.same {T : List (Addr × Str)} {H H' : Hp} (s : Same H H') : Ev T H H' := ⟨.of s, fun t => t.ext s⟩
theorem Ev.made {T : List (Addr × Str)} {H H' : Hp} (a : ExtN H H') (b : Tabs T H') : Ev T H H' := ⟨a, fun _ => b⟩
theorem Ev.lst {T : List (Addr × Str)} {H H' : Hp} (e : Ev T H H') {a : Addr} {xs : List V} (h : H a = some (.lst xs)) : H' a = some (.lst xs) := e.ex _ _ h (fun _ z => nomatch z)
theorem Ev.tup {T : List (Addr × Str)} {H H' : Hp} (e : Ev T H H') {a : Addr} {xs : List V} (h : H a = some (.tup xs)) : H' a = some (.tup xs) := e.ex _ _ h (fun _ z => nomatch z)
theorem Ev.ins {T : List (Addr × Str)} {H H' : Hp} (e : Ev T H H') {a C d : Addr} {fs : List (Str × V)} (h : H a = some (.ins C d fs)) : H' a = some (.ins C d fs) := e.ex _ _ h (fun _ z => nomatch z)
theorem Ev.seqT {K : PySem.W.Frag} {T : List (Addr × Str)} {H H' : Hp} (e : Ev T H H') {a : Addr} {xs : List V} (h : SqT K H a xs) : SqT K H' a xs := by
  rcases h with (h | ⟨o, h⟩) | h
  · exact .inl (.inl (e.tup h))
  · exact .inl (.inr ⟨o, e.ex _ _ h (fun _ z => nomatch z)⟩)
  · exact .inr h
theorem Ev.seq {K : PySem.W.Frag} {T : List (Addr × Str)} {H H' : Hp} (e : Ev T H H') {a : Addr} {xs : List V} (h : SqL K H a xs) : SqL K H' a xs := by
  rcases h with (h | ⟨o, h⟩) | h
  · exact .inl (.inl (e.lst h))
  · exact .inl (.inr ⟨o, e.ex _ _ h (fun _ z => nomatch z)⟩)
  · exact .inr h
mutual
theorem Dp_sq {K : PySem.W.Frag} {H H' : Hp} (eL : ∀ a xs, SqL K H a xs → SqL K H' a xs) (eT : ∀ a xs, SqT K H a xs → SqT K H' a xs) : ∀ (d : PyData) {v : V}, Dp K H v d → Dp K H' v d
  | _, _, .int _ => .int _
  | _, _, .str _ => .str _
  | _, _, .bl _ => .bl _
  | _, _, .non => .non
  | _, _, .lst h a => .lst (eL _ _ h) (DpAll_sq eL eT _ a)
  | _, _, .tup h a => .tup (eT _ _ h) (DpAll_sq eL eT _ a)
theorem DpAll_sq {K : PySem.W.Frag} {H H' : Hp} (eL : ∀ a xs, SqL K H a xs → SqL K H' a xs) (eT : ∀ a xs, SqT K H a xs → SqT K H' a xs) : ∀ (ds : List PyData) {vs : List V}, DpAll K H vs ds → DpAll K H' vs ds
  | _, _, .nil => .nil
  | _, _, .cons h t => .cons (Dp_sq eL eT _ h) (DpAll_sq eL eT _ t)
end
theorem Ev.dp {K : PySem.W.Frag} {T : List (Addr × Str)} {H H' : Hp} (e : Ev T H H') {v : V} {d : PyData} (h : Dp K H v d) : Dp K H' v d := Dp_sq (fun _ _ => e.seq) (fun _ _ => e.seqT) d h
theorem Ev.dpA {K : PySem.W.Frag} {T : List (Addr × Str)} {H H' : Hp} (e : Ev T H H') {vs : List V} {ds : List PyData} (h : DpAll K H vs ds) : DpAll K H' vs ds := DpAll_sq (fun _ _ => e.seq) (fun _ _ => e.seqT) ds h
/-- a new thing that is changed -/
theorem Ev.mut {T : List (Addr × Str)} {H H1 : Hp} {D : Addr} {us : List V} {o : HO} (e : Ev T H H1) (n : H D = none) (h : H1 D = some (.lst us)) : Ev T H (upd H1 D o) := ⟨fun b o' hb ne => by
  rw [upd_ne (ne_of_none hb n)]
  exact e.ex _ _ hb ne, fun t => fun p hp => by
  obtain ⟨ps, e1, ok, k⟩ := e.tb t p hp
  have keep : ∀ b o', H1 b = some o' → (∀ l, o' ≠ .lst l) → upd H1 D o b = some o' := fun b o' hb ne => by
    rw [upd_ne fun z => by rw [z, h] at hb; exact ne _ (Option.some.inj hb).symm]
    exact hb
  refine ⟨ps, keep _ _ e1 (fun _ z => nomatch z), ok, fun pos cv hc => ?_⟩
  obtain ⟨c, rfl, hcc⟩ := k pos cv hc
  exact ⟨c, rfl, keep _ _ hcc (fun l z => by unfold CodeO at z; cases z)⟩⟩
/-- a comprehension of new things of some kind, where lambdas may be made -/
theorem lc_ev {α : Type} {T : List (Addr × Str)} (F : Hp → V → α → Prop) (st : ∀ H H' v a, Ev T H H' → F H v a → F H' v a) (up : ∀ H D us us' v a, H D = some (.lst us) → F H v a → F (upd H D (.lst us')) v a)
    {σ : L2.St} {H : Hp} {g : TG} {tt : TT} {te : TE} {J : It} {n : Nat} {G : Hp → Prop} {Y : Nat → Hp → V → Hp → Prop} (w : L2.Walk J n G Y) {vs : List Nat} {Qd : Addr → Hp → Prop} (l : List α) (hl : l.length = n) (hn : n ≤ 1000000) (hG : ∀ H', Ev T H H' → G H')
    (hs : ∀ i x H2 H' (R : V → Hp → Prop) (R' : Hp → Prop), i < n → Ev T H H2 → Y i H2 x H' → (∀ v p H4, l[i]? = some p → Ev T H2 H4 → F H4 v p → R v H4) →
      g x (wipe σ vs) H' fun σ2 H2 => wipe σ2 vs = wipe σ vs ∧ tt σ2 H2 fun b H3 => if b = true then te σ2 H3 R else R' H3)
    (q : ∀ p H' vs, H p = none → Ev T H H' → H' p = some (.lst vs) → Paired (F H') vs l → Qd p H') :
    ∀ D, H D = none → ∃ W : Nat → Nat → Hp → Prop, (∃ m, W 0 m (upd H D (.lst []))) ∧ ∀ i m H, W i m H →
      (J.stop i H ∧ Qd D H) ∨ (J.go i H ∧ ∃ Nx : Hp → Prop, (∀ H', Nx H' → ∃ m', m' < m ∧ W (i + 1) m' H') ∧ ∀ x H', J.yld i H x H' → g x (wipe σ vs) H' fun σ2 H2 => wipe σ2 vs = wipe σ vs ∧ tt σ2 H2 fun b H3 =>
        if b = true then te σ2 H3 fun y H4 => ∃ acc, H4 D = some (.lst acc) ∧ acc.length < sizeLine ∧ Nx (upd H4 D (.lst (acc ++ [y]))) else Nx H3) := by
  intro D hD
  refine lc_it w (fun i H2 => Ev T H H2 ∧ ∃ us, H2 D = some (.lst us) ∧ Paired (F H2) us (l.take i)) ⟨.same (same_new hD), [], upd_same, .nil⟩ (fun i H2 _ p => hG H2 p.1) ?_ (fun H2 ⟨p1, us, p2, p3⟩ => q D H2 us hD p1 p2 (by rwa [List.take_of_length_le (by omega)] at p3))
  rintro i x H2 H' hi ⟨p1, us, p2, p3⟩ y
  refine hs i x H2 H' _ _ hi p1 y (fun v p H4 e s et => ?_)
  have e4 := s.lst p2
  have ln := Paired.length p3
  rw [List.length_take] at ln
  refine ⟨us, e4, sz_lt (by omega), (p1.trans s).mut hD e4, _, upd_same, ?_⟩
  rw [List.take_succ, e]
  exact paired_app (paired_imp2 (fun v p h => up _ _ _ _ _ _ e4 (st _ _ _ _ s h)) p3) (.cons (up _ _ _ _ _ _ e4 et) .nil)
/-- a comprehension of new things of some kind, where lambdas may be made -/
theorem lc_ev2 {α : Type} {T : List (Addr × Str)} (F : Hp → V → α → Prop) (st : ∀ H H' v a, Ev T H H' → F H v a → F H' v a) {σ : L2.St} {H : Hp} (up : ∀ H1 D us us' v a, H D = none → H1 D = some (.lst us) → F H1 v a → F (upd H1 D (.lst us')) v a)
     {g : TG} {tt : TT} {te : TE} {J : It} {n : Nat} {G : Hp → Prop} {Y : Nat → Hp → V → Hp → Prop} (w : L2.Walk J n G Y) {vs : List Nat} {Qd : Addr → Hp → Prop} (l : List α) (hl : l.length = n) (hn : n ≤ 1000000) (hG : ∀ H', Ev T H H' → G H')
    (hs : ∀ i x H2 H' (R : V → Hp → Prop) (R' : Hp → Prop), i < n → Ev T H H2 → Y i H2 x H' → (∀ v p H4, l[i]? = some p → Ev T H2 H4 → F H4 v p → R v H4) →
      g x (wipe σ vs) H' fun σ2 H2 => wipe σ2 vs = wipe σ vs ∧ tt σ2 H2 fun b H3 => if b = true then te σ2 H3 R else R' H3)
    (q : ∀ p H' vs, H p = none → Ev T H H' → H' p = some (.lst vs) → Paired (F H') vs l → Qd p H') :
    ∀ D, H D = none → ∃ W : Nat → Nat → Hp → Prop, (∃ m, W 0 m (upd H D (.lst []))) ∧ ∀ i m H, W i m H →
      (J.stop i H ∧ Qd D H) ∨ (J.go i H ∧ ∃ Nx : Hp → Prop, (∀ H', Nx H' → ∃ m', m' < m ∧ W (i + 1) m' H') ∧ ∀ x H', J.yld i H x H' → g x (wipe σ vs) H' fun σ2 H2 => wipe σ2 vs = wipe σ vs ∧ tt σ2 H2 fun b H3 =>
        if b = true then te σ2 H3 fun y H4 => ∃ acc, H4 D = some (.lst acc) ∧ acc.length < sizeLine ∧ Nx (upd H4 D (.lst (acc ++ [y]))) else Nx H3) := by
  intro D hD
  refine lc_it w (fun i H2 => Ev T H H2 ∧ ∃ us, H2 D = some (.lst us) ∧ Paired (F H2) us (l.take i)) ⟨.same (same_new hD), [], upd_same, .nil⟩ (fun i H2 _ p => hG H2 p.1) ?_ (fun H2 ⟨p1, us, p2, p3⟩ => q D H2 us hD p1 p2 (by rwa [List.take_of_length_le (by omega)] at p3))
  rintro i x H2 H' hi ⟨p1, us, p2, p3⟩ y
  refine hs i x H2 H' _ _ hi p1 y (fun v p H4 e s et => ?_)
  have e4 := s.lst p2
  have ln := Paired.length p3
  rw [List.length_take] at ln
  refine ⟨us, e4, sz_lt (by omega), (p1.trans s).mut hD e4, _, upd_same, ?_⟩
  rw [List.take_succ, e]
  exact paired_app (paired_imp2 (fun v p h => up _ _ _ _ _ _ hD e4 (st _ _ _ _ s h)) p3) (.cons (up _ _ _ _ _ _ hD e4 et) .nil)
theorem same_made {H : Hp} {x dx C : Addr} (nx : H x = none) (nd : H dx = none) (ne : dx ≠ x) : Same H (upd (upd H dx (.own x)) x (.ins C dx [])) :=
  (same_new nd).trans (same_new (by rw [upd_ne ne.symm]; exact nx))
theorem paired_nth {α β : Type} {F : α → β → Prop} : ∀ {xs : List α} {ys : List β} {i : Nat} {x : α}, Paired F xs ys → xs[i]? = some x → ∃ y, ys[i]? = some y ∧ F x y
  | _, _, _, _, .nil, h => by simp at h
  | _, _, 0, _, .cons h _, e => by
    cases e
    exact ⟨_, rfl, h⟩
  | _, _, i + 1, _, .cons _ t, e => paired_nth t (i := i) e
theorem paired_of {α β : Type} {F : α → β → Prop} : ∀ {xs : List α} {ys : List β} {i : Nat} {y : β}, Paired F xs ys → ys[i]? = some y → ∃ x, xs[i]? = some x ∧ F x y
  | _, _, _, _, .nil, h => by simp at h
  | _, _, 0, _, .cons h _, e => by
    cases e
    exact ⟨_, rfl, h⟩
  | _, _, i + 1, _, .cons _ t, e => paired_of t (i := i) e
theorem paired_pick {α β γ : Type} {R : α → β → γ → Prop} : ∀ {us : List α} {ps : List β}, Paired (fun u p => ∃ w, R u p w) us ps → ∃ ws : List γ, ws.length = ps.length ∧ Paired (fun u (x : β × γ) => R u x.1 x.2) us (ps.zip ws)
  | _, [], h => by cases h; exact ⟨[], rfl, .nil⟩
  | _, p :: ps, h => by
    cases h with | cons h1 h2 =>
    obtain ⟨w, hw⟩ := h1
    obtain ⟨ws, hl, hp⟩ := paired_pick h2
    exact ⟨w :: ws, by simp [hl], .cons hw hp⟩
theorem paired_unzip {α β γ : Type} {F : α → β × γ → Prop} {G : α → β → Prop} : ∀ {us : List α} {ps : List β} {ws : List γ}, Paired F us (ps.zip ws) → ws.length = ps.length → (∀ u x, x ∈ ps.zip ws → F u x → G u x.1) → Paired G us ps
  | _, [], _, h, _, _ => by cases h; exact .nil
  | _, p :: ps, [], _, hl, _ => by simp at hl
  | _, p :: ps, w :: ws, h, hl, k => by
    cases h with | cons h1 h2 =>
    exact .cons (k _ _ (by simp) h1) (paired_unzip h2 (by simpa using hl) fun u x hx => k u x (List.mem_cons_of_mem _ hx))
theorem LamAt.up {q : Str} {params : Arguments} {body : Expr} {scope : Scope} {fr : List Str} {ws : List V} {f D : Addr} {H : Hp} {us : List V} {o : HO} (L : LamAt q params body scope fr ws f H) (e : H D = some (.lst us)) : LamAt q params body scope fr ws f (upd H D o) := by
  obtain ⟨c, cl, g1, g2, C⟩ := L
  have keep : ∀ b o', H b = some o' → (∀ l, o' ≠ .lst l) → upd H D o b = some o' := fun b o' hb n => by
    rw [upd_ne fun z => by rw [z, e] at hb; exact n _ (Option.some.inj hb).symm]
    exact hb
  exact ⟨c, cl, keep _ _ g1 (fun _ z => nomatch z), keep _ _ g2 (fun _ z => by unfold CodeO at z; cases z), ⟨C.len, fun i y z => by
    obtain ⟨c, w, a1, a2, a3⟩ := C.has i y z
    exact ⟨c, w, a1, a2, keep _ _ a3 (fun _ z => nomatch z)⟩, C.all, C.inj⟩⟩
/-- the tables at the start -/
structure TabsE (K : PySem.W.Frag) (cs : List (Addr × Addr)) (h : Heap) : Prop where
  e : ∀ p ∈ cs, h.get? p.2 = some { cls := .none, data := .fields #[] }
  n : ∀ p ∈ cs, K.lookup p.2 = none
  c : ∀ p ∈ cs, PySem.W.CodeHd h p.1 p.2
theorem TabsE.cons {K : PySem.W.Frag} {mg : Str → Option Value} {x : Str} {cc : Addr} {cs : List (Addr × Addr)} {h : Heap} {ts : List Addr} (X : K.In h) (e : cF K mg x = cc) (ch : PySem.W.codeHdIn K cc (pK K cc) = true) (nk : K.lookup (pK K cc) = none) (mt : ts.contains (pK K cc) = true) (Y : ∀ P ∈ ts, h.get? P = some (PySem.W.tabObj #[])) (r : TabsE K cs h) : TabsE K ((cF K mg x, pF K mg x) :: cs) h := by
  have e2 : pF K mg x = pK K cc := by
    show pK K (cF K mg x) = _
    rw [e]
  rw [e, e2]
  exact ⟨List.forall_mem_cons.mpr ⟨Y _ (by simpa using mt), r.e⟩, List.forall_mem_cons.mpr ⟨nk, r.n⟩, List.forall_mem_cons.mpr ⟨PySem.W.codeHd_of_K X ch, r.c⟩⟩
theorem TabsE.nil {K : PySem.W.Frag} {h : Heap} : TabsE K [] h := ⟨(fun _ h => nomatch h), (fun _ h => nomatch h), (fun _ h => nomatch h)⟩
theorem pF_ne {K : PySem.W.Frag} {mg : Str → Option Value} {x y : Str} {a b : Addr} (e1 : cF K mg x = a) (e2 : cF K mg y = b) (n : (pK K a == pK K b) = false) : pF K mg x ≠ pF K mg y := fun z => by
  have z2 : pK K (cF K mg x) = pK K (cF K mg y) := z
  rw [e1, e2] at z2
  rw [z2] at n
  simp at n
theorem defC_mk {K : PySem.W.Frag} {mg : Str → Option Value} {x : Str} {st : Stmt} {ps : List Str} {f cc : Addr} {oc : Value} {od : Option Addr} {kV doc pm : Value} {an : Option Addr} {ct : Value} {osl : Array (Option Value)} (e : cF K mg x = cc)
    (l : K.lookup f = some ⟨oc, od, .func (PySem.W.fnOf x x (defArgs st) (defBody st) (defScope st) .none kV doc pm an (.ref cc) ct), osl⟩) (c : PySem.W.codeIn K (.ref cc) x = true) (k : PySem.W.keepIn K (.ref f) = true) (hm : mg x = some (.ref f))
    (b : ∀ kV doc pm an cdv ct, ∀ us : List Value, us.length = ps.length → bindArgs (PySem.W.fnOf x x (defArgs st) (defBody st) (defScope st) .none kV doc pm an cdv ct) ⟨us, []⟩ = pure (ps.zip us)) : DefC K mg x st ps := by
  subst e
  exact ⟨f, oc, od, kV, doc, pm, an, ct, osl, l, c, k, hm, .all (b kV doc pm an _ ct)⟩
/-! ### where a lambda stands in a text -/
def stV : Stmt → Expr
  | .Assign _ v _ => v
  | .Return (some e) _ => e
  | _ => .Name "x" ⟨0, 0, 0, 0⟩
/-- the lambda itself, the second of a tuple, the second argument of a call -/
def lamE : Expr → Expr
  | .Tuple es _ _ => es.getD 1 (.Name "x" ⟨0, 0, 0, 0⟩)
  | .Call _ as _ _ => as.getD 1 (.Name "x" ⟨0, 0, 0, 0⟩)
  | e => e
def lamP (st : Stmt) : Expr → Arguments
  | .Lambda p _ _ _ => p
  | _ => defArgs st
def lamB : Expr → Expr
  | .Lambda _ b _ _ => b
  | e => e
def lamS (st : Stmt) : Expr → Scope
  | .Lambda _ _ sc _ => sc
  | _ => defScope st
def lamPos : Expr → Pos
  | .Lambda _ _ _ p => p
  | _ => ⟨0, 0, 0, 0⟩
/-- a comprehension's scope -/
def lcSc : Expr → Scope
  | .ListComp _ _ sc _ => sc
  | .Lambda _ _ sc _ => sc
  | _ => defScope (.Pass ⟨0, 0, 0, 0⟩)
theorem pe_lamE {X : Cx} {T : List (Addr × Str)} {c P : Addr} {q : Str} (st : Stmt) (e : Expr) (h : e = .Lambda (lamP st e) (lamB e) (lamS st e) (lamPos e)) (TB : TabB X.base X.mg c P) (hcode : X.env.code = .ref c) (hq : X.env.qual ++ "<lambda>" = q)
    (hm : (P, q) ∈ T) (hu : ∀ p ∈ T, p.1 = P → p.2 = q) (hdef : defaultsOf (lamP st e) X.env = ([], [])) (hfree : ∀ y ∈ (lamS st e).names, y.2 = .free → X.env.scope.names.lookup y.1 = some .cell ∨ X.env.scope.names.lookup y.1 = some .free) :
    PE X e (tLam T fun c' => ⟨q, lamP st e, lamB e, lamS st e, cloFrom X.env.cells (lamS st e).names [], c'⟩) := by
  rw [h]
  exact pe_lam TB hcode hq hm hu hdef hfree
/-- the free names of a lambda are cells of the def around -/
def freeIn (sc lsc : Scope) : Bool := lsc.names.all fun y => !decide (y.2 = .free) || decide (sc.names.lookup y.1 = some .cell) || decide (sc.names.lookup y.1 = some .free)
theorem freeIn_ok {sc lsc : Scope} (h : freeIn sc lsc = true) : ∀ y ∈ lsc.names, y.2 = .free → sc.names.lookup y.1 = some .cell ∨ sc.names.lookup y.1 = some .free := fun y hy e => by
  unfold freeIn at h
  have := List.all_eq_true.mp h y hy
  simp only [Bool.or_eq_true, Bool.not_eq_true', decide_eq_true_eq, decide_eq_false_iff_not] at this
  rcases this with (z | z) | z
  · exact absurd e z
  · exact .inl z
  · exact .inr z
end Kt

set_option Elab.async false
set_option linter.all false
set_option maxRecDepth 100000
set_option maxHeartbeats 4000000
/-! DtL: dicts with tuple keys: items walked, dict(list of pairs) -/
namespace Kt
open PySem PySem.Spec PyProof.Rows L2
/-- the items of the locked dict at d: each a new pair of the key's own tuple and the value -/
def Itit (d : Addr) (o : Obj) (kvs : List (List L2.Key × V)) : It :=
  ⟨fun i H => H d = some (.frz o (.dT kvs)) ∧ i < kvs.length, fun i H x H' => ∃ (T q : Addr) (k : List L2.Key) (v : V), kvs[i]? = some (k, v) ∧ x = .ref T ∧ H T = none ∧ H q = some (.tup (k.map kV)) ∧ H' = upd H T (.tup [.ref q, v]), fun i H => H d = some (.frz o (.dT kvs)) ∧ kvs.length ≤ i⟩
section
variable {X : Cx} {pins : List (Addr × Obj)} {σ : L2.St} {H : Hp} {s : Shared} {d : Addr} {o : Obj}
theorem frzT2 {kvs : List (List L2.Key × V)} (I : Inv X pins σ H s) (h : H d = some (.frz o (.dT kvs))) :
    (d == sysModules) = false ∧ ∃ (es : Array DictEntry) (ep : Nat), o.data = .dict es ep ∧ DT.Raw s.heap d es ep ∧ es.size = kvs.length ∧
      ∀ (i : Nat) (k : List L2.Key) (v : V), kvs[i]? = some (k, v) → ∃ (en : DictEntry) (q : Addr), es[i]? = some en ∧ en.key = .ref q ∧ RelV v en.val ∧ H q = some (.tup (k.map kV)) := by
  obtain ⟨hd, z, hs, xs, pr, o', es, ep, ho, hx, hdt, he, _⟩ := I.hok d _ h
  rw [hd] at ho
  cases ho
  refine ⟨hs, es, ep, hdt, ⟨o, hd, hx, hdt⟩, ?_, fun i k v e => ?_⟩
  · have l1 : es.size = xs.length := size_of_entries he
    have l2 : kvs.length = xs.length := Paired.length pr
    omega
  · obtain ⟨b, hb, e1, e2, e3⟩ := paired_get pr e
    have q := entry_at he i
    rw [hb] at q
    exact ⟨_, b.2.1, q, rfl, e3, e2⟩
end
section
variable {P : Program} {w : World} {K : PySem.W.Frag} {tg : Expr} {d : Addr} {o : Obj} {es : Array DictEntry} {ep : Nat}
theorem turn_itemsT {kvs : List (List L2.Key × V)} {elts : List Expr} {kk : Nat} {tpos : Pos} (it : Addr) (hod : o.data = .dict es ep) :
    Turn P w K (.Tuple elts kk tpos) (Itit d o kvs) [it] it (fun i h => ∃ ok ov, IsItemIter h it d i kvs.length ep ok ov) where
  mem := by simp
  obj := fun i h st b hb => by
    have e : b = it := by simpa using hb
    subst e
    obtain ⟨ok, ov, e⟩ := st
    exact ⟨_, e, fun v z => nomatch z⟩
  keep := fun i h h' st k => let ⟨ok, ov, e⟩ := st; ⟨ok, ov, k it (by simp) _ e⟩
  item := by
    intro X hP hw hK hc i pins s σ H E I hf st hg
    subst hP hw hK
    obtain ⟨hd, hi⟩ := hg
    obtain ⟨hs, es', ep', hdt, raw, hsz, ent⟩ := frzT2 I hd
    obtain ⟨rfl, rfl⟩ := dict_ep hod hdt
    obtain ⟨⟨k, v⟩, hkv⟩ : ∃ p, kvs[i]? = some p := ⟨kvs[i], List.getElem?_eq_getElem hi⟩
    obtain ⟨en, q, hen, hkey, hval, hq⟩ := ent i k v hkv
    have hi2 : i < es'.size := by omega
    have hen2 : es'[i] = en := by
      rw [Array.getElem?_eq_getElem hi2] at hen
      exact Option.some.inj hen
    obtain ⟨ok, ov, he⟩ := st
    rw [← hsz] at he
    have hlt : it < s.heap.objs.size := Heap.lt_size he
    refine DT.nextI he raw hi2 fun h' ho hT hz hk => ?_
    rw [hen2] at ho hT
    refine ⟨_, rfl, wpAny_letOwnedTupleGo_items (s := { s with heap := h' }) ho fun h'' he' sb => ?_⟩
    have hT2 : h''.get? s.heap.objs.size = some { cls := .type "tuple", data := .seq #[en.key, en.val] } := (sb.2 _ (Nat.ne_of_gt hlt)).trans hT
    have new : ObjOk X.prog X.w (upd H s.heap.objs.size (.tup [.ref q, v])) h'' s.heap.objs.size (.tup [.ref q, v]) :=
      ⟨by show 2 ≤ sizeLine; decide, [en.key, en.val], .cons hkey (.cons hval .nil), ⟨_, hT2, rfl, _, rfl⟩⟩
    have I1 : Inv X pins σ (upd H s.heap.objs.size (.tup [.ref q, v])) { s with heap := h'' } :=
      I.turnedNew (t' := s.toks) (ch := [it]) (fun b ob hb e => (sb.2 b (by simpa using hb)).trans (hk b ob (by simpa using hb) e)) hf (Nat.le_refl _) new
    refine ⟨.ref s.heap.objs.size, _, I1, rfl, ⟨_, q, k, v, hkv, rfl, I.hok.fresh (Nat.le_refl _), hq, rfl⟩, ⟨en.key, en.val, ?_⟩, fun b hb => ?_⟩
    · rw [← hsz]; exact he'
    · have e : b = it := by simpa using hb
      rw [e, upd_ne (Nat.ne_of_lt hlt)]
      exact (hf it (by simp)).1
  done := by
    intro X hP hw hK hc i pins s σ H E I hf st hg
    subst hP hw hK
    obtain ⟨hd, hi⟩ := hg
    obtain ⟨f0, f1, f2, f3, f4, f5⟩ := hf it (by simp)
    obtain ⟨hs, es', ep', hdt, raw, hsz, ent⟩ := frzT2 I hd
    obtain ⟨rfl, rfl⟩ := dict_ep hod hdt
    obtain ⟨ok, ov, he⟩ := st
    rw [← hsz] at he
    exact DT.endI (I.ok.hd hc) he raw (by omega) fun h' eb => ⟨rfl, I.turned (t' := s.toks) (fun b ob hb e => eb b ob hb e) f0 f1 f3 f4 f5⟩
  self := fun A i s Q E st h => let ⟨_, _, e⟩ := st; PySem.W.kcp_self e h
end
def iItemsT (td : TE) : TI := fun σ H R => td σ H fun x H1 => ∃ d o kvs, x = .ref d ∧ H1 d = some (.frz o (.dT kvs)) ∧ R (Itit d o kvs) H1
section
variable {X : Cx} {tg e : Expr} {td : TE} {apos cpos : Pos}
theorem pi_itemsT {elts : List Expr} {kk : Nat} {tpos : Pos} (he : PE X e td) (hbase : attributeBase e "items" X.env (eval e X.env) = eval e X.env := by rfl) (hline : (apos.endLine == cpos.line) = true := by rfl) :
    PI X (.Tuple elts kk tpos) (.Call (.Attribute e "items" apos) [] [] cpos) (iItemsT td) := by
  refine ⟨fun pins s σ H R I h => ?_⟩
  refine wpAny_Call_method (T := "dict") (id := "dict.items") hbase rfl hline F.plainAttrs_dict F.slot_dict_items F.type_dict_items (thn (he.run pins s σ H _ I h) fun u s1 ⟨x, H1, I1, rx, d, o, kvs, ex, hd, q⟩ => ?_)
  subst ex
  obtain rfl : u = Value.ref d := rx
  obtain ⟨hs, es, ep, hdt, raw, hsz, ent⟩ := frzT2 I1 hd
  refine ⟨raw.typeIs, (fun b hb => by cases hb; obtain ⟨o', ho', hx', _⟩ := raw; exact ⟨o', ho', hx'.2.1⟩), ?_⟩
  have I2 : Inv X pins σ H1 { s1 with heap := s1.heap.push { cls := .type "dict_items", data := .fields #[.ref d] } } := I1.kept (t' := s1.toks) fun b ob q => Heap.get?_push_of_some _ q
  have fin : wpAny (model X.prog X.w) X.A (pyIter (.ref s1.heap.objs.size)) (PIE X pins σ (.Tuple elts kk tpos) R) X.xe { s1 with heap := s1.heap.push { cls := .type "dict_items", data := .fields #[.ref d] } } := by
    refine DT.iterI (d := d) ⟨_, Heap.get?_push_size _ rfl, rfl, rfl⟩ (raw.push _) (pi_one (tk := s1.toks) I2 _ (turn_itemsT _ hdt) ⟨.none, .none, ?_⟩ q)
    rw [← hsz]
    exact Heap.get?_push_size _ rfl
  show wpAny _ _ (callWith cpos (.builtin "dict.items") [.ref d] [] []) _ X.xe s1
  exact method_meetsIn F.slot_dict_items F.entry_dict_items rfl (PySem.evalArgs_none ⟨rfl, raw.typeIs, F.args_dict_items_1 _, _, DT.meetsItems hs, ⟨raw, fin⟩⟩)
def iItemsTL (td : TE) : TI := fun σ H R => td σ H fun x H1 => ∃ d kvs, x = .ref d ∧ H1 d = some (.dT kvs) ∧ ∀ od, R (Itit d od kvs) (upd H1 d (.frz od (.dT kvs)))
/-- items of a dict that is locked here, and stays so -/
theorem pi_itemsTL {elts : List Expr} {kk : Nat} {tpos : Pos} (he : PE X e td) (hbase : attributeBase e "items" X.env (eval e X.env) = eval e X.env := by rfl) (hline : (apos.endLine == cpos.line) = true := by rfl) :
    PI X (.Tuple elts kk tpos) (.Call (.Attribute e "items" apos) [] [] cpos) (iItemsTL td) := by
  refine ⟨fun pins s σ H R I h => ?_⟩
  refine wpAny_Call_method (T := "dict") (id := "dict.items") hbase rfl hline F.plainAttrs_dict F.slot_dict_items F.type_dict_items (thn (he.run pins s σ H _ I h) fun u s1 ⟨x, H0, I0, rx, d, kvs, ex, hd0, q0⟩ => ?_)
  subst ex
  obtain rfl : u = Value.ref d := rx
  obtain ⟨o, I1⟩ := I0.lock hd0 trivial
  have q := q0 o
  have hd : (upd H0 d (.frz o (.dT kvs))) d = some (.frz o (.dT kvs)) := upd_same
  generalize upd H0 d (.frz o (.dT kvs)) = H1 at I1 q hd
  obtain ⟨hs, es, ep, hdt, raw, hsz, ent⟩ := frzT2 I1 hd
  refine ⟨raw.typeIs, (fun b hb => by cases hb; obtain ⟨o', ho', hx', _⟩ := raw; exact ⟨o', ho', hx'.2.1⟩), ?_⟩
  have I2 : Inv X pins σ H1 { s1 with heap := s1.heap.push { cls := .type "dict_items", data := .fields #[.ref d] } } := I1.kept (t' := s1.toks) fun b ob q => Heap.get?_push_of_some _ q
  have fin : wpAny (model X.prog X.w) X.A (pyIter (.ref s1.heap.objs.size)) (PIE X pins σ (.Tuple elts kk tpos) R) X.xe { s1 with heap := s1.heap.push { cls := .type "dict_items", data := .fields #[.ref d] } } := by
    refine DT.iterI (d := d) ⟨_, Heap.get?_push_size _ rfl, rfl, rfl⟩ (raw.push _) (pi_one (tk := s1.toks) I2 _ (turn_itemsT _ hdt) ⟨.none, .none, ?_⟩ q)
    rw [← hsz]
    exact Heap.get?_push_size _ rfl
  show wpAny _ _ (callWith cpos (.builtin "dict.items") [.ref d] [] []) _ X.xe s1
  exact method_meetsIn F.slot_dict_items F.entry_dict_items rfl (PySem.evalArgs_none ⟨rfl, raw.typeIs, F.args_dict_items_1 _, _, DT.meetsItems hs, ⟨raw, fin⟩⟩)
end
theorem walk_itemsT {d : Addr} {o : Obj} {kvs : List (List L2.Key × V)} : Walk (Itit d o kvs) kvs.length (fun H => H d = some (.frz o (.dT kvs)))
    (fun i H x H' => ∃ (T q : Addr) (k : List L2.Key) (v : V), kvs[i]? = some (k, v) ∧ x = .ref T ∧ H T = none ∧ H q = some (.tup (k.map kV)) ∧ H' = upd H T (.tup [.ref q, v])) :=
  ⟨fun _ _ hi q => ⟨q, hi⟩, fun _ q => ⟨q, Nat.le_refl _⟩, fun _ _ _ _ _ _ y => y⟩
theorem L_iItemsTL {td : TE} {σ : L2.St} {H : Hp} {R : It → Hp → Prop} (h : td σ H fun x H1 => ∃ d kvs, x = .ref d ∧ H1 d = some (.dT kvs) ∧ ∀ od, R (Itit d od kvs) (upd H1 d (.frz od (.dT kvs)))) : iItemsTL td σ H R := h
theorem L_iItemsT {td : TE} {σ : L2.St} {H : Hp} {R : It → Hp → Prop} (h : td σ H fun x H1 => ∃ d o kvs, x = .ref d ∧ H1 d = some (.frz o (.dT kvs)) ∧ R (Itit d o kvs) H1) : iItemsT td σ H R := h
/-! ### dict(list of pairs), keys tuples -/
def allK (kvs : List (List L2.Key × V)) : List (List L2.Key × V) := kvs.foldl (fun acc p => putK acc p.1 p.2) []
def PairK (H : Hp) (u : V) (p : List L2.Key × V) : Prop := ∃ T q, u = .ref T ∧ H T = some (.tup [.ref q, p.2]) ∧ H q = some (.tup (p.1.map kV))
def rDictT : List V → Hp → VK → Prop := fun xs H Q => ∃ (a : Addr) (us : List V) (kvs : List (List L2.Key × V)), xs = [.ref a] ∧ H a = some (.lst us) ∧ Paired (PairK H) us kvs ∧ ∀ d, H d = none → Q (.ref d) (upd H d (.dT (allK kvs)))
theorem kt_all {H : Hp} : ∀ (kvs : List (List L2.Key × V)) (ps : List (List L2.Key × Addr × Value)) (acc : List (List L2.Key × V)) (xs : List (List L2.Key × Addr × Value)), KT H kvs ps → KT H acc xs → KT H (kvs.foldl (fun acc p => putK acc p.1 p.2) acc) (storedAllH xs ps)
  | _, _, acc, xs, .nil, h => h
  | _, _, acc, xs, .cons (a := p) (b := b) h1 t, h => by
    unfold storedAllH
    rw [List.foldl_cons, List.foldl_cons]
    have e : b.1 = p.1 := h1.1.symm
    have h2 := h.put p.1 (b := b.2.1) h1.2.1 h1.2.2
    rw [← e] at h2
    rw [← e]
    exact kt_all _ _ _ _ t h2
theorem putT_len {kvs : List (List L2.Key × V)} {k : List L2.Key} {v : V} : (putK kvs k v).length ≤ kvs.length + 1 := by
  unfold putK
  split
  · rw [List.length_map]
    omega
  · rw [List.length_append]
    exact Nat.le_refl _
theorem allK_len : ∀ (kvs acc : List (List L2.Key × V)), (kvs.foldl (fun acc p => putK acc p.1 p.2) acc).length ≤ acc.length + kvs.length
  | [], acc => Nat.le_refl _
  | p :: kvs, acc => by
    have h1 := allK_len kvs (putK acc p.1 p.2)
    have h2 := putT_len (kvs := acc) (k := p.1) (v := p.2)
    rw [List.foldl_cons, List.length_cons]
    omega
def adr : V → Addr
  | .ref T => T
  | _ => 0
theorem call_dictT {X : Cx} (calm : X.calm = true) (hu : X.A.units + 65 < cLine) : CallR X (.type "dict") rDictT := by
  intro pins s σ H xs us Q I r h
  obtain ⟨a, zs, kvs, rfl, ha, hp, q⟩ := h
  rw [Vals.ref1 r]
  obtain ⟨hl, its, n, rv, ho⟩ := (show ObjOk X.prog X.w H s.heap a (.lst zs) from I.hok a _ ha)
  -- the keys and the values as they stand
  have key : ∀ {zs : List V} {its : List Value} {kvs : List (List L2.Key × V)}, Vals zs its → Paired (PairK H) zs kvs → ∃ ps : List (List L2.Key × Addr × Value), KT H kvs ps ∧ its.length = ps.length ∧ ∀ (j : Nat) (k : List L2.Key) (b : Addr) (v : Value), ps[j]? = some (k, b, v) → ∃ T : Addr, zs[j]? = some (V.ref T) ∧ its[j]? = some (Value.ref T) ∧ IsTup s.heap T #[.ref b, v] := by
    intro zs its kvs rv hp
    induction hp generalizing its with
    | nil =>
      cases rv
      exact ⟨[], .nil, rfl, fun j k b v z => by simp at z⟩
    | @cons u p zs kvs h1 t ih =>
      cases rv with | @cons _ v0 _ its r1 r2 =>
      obtain ⟨ps, k1, k2, k3⟩ := ih r2
      obtain ⟨T, q0, rfl, e1, e2⟩ := h1
      cases (show v0 = Value.ref T from r1)
      obtain ⟨_, it2, rv2, o2, g1, g2, g3⟩ := (show ObjOk X.prog X.w H s.heap T (.tup [.ref q0, p.2]) from I.hok T _ e1)
      cases rv2 with | @cons _ w1 _ _ r3 r4 =>
      cases r4 with | @cons _ w2 _ _ r5 r6 =>
      cases r6
      cases (show w1 = Value.ref q0 from r3)
      refine ⟨(p.1, q0, w2) :: ps, .cons ⟨rfl, e2, r5⟩ k1, by rw [List.length_cons, List.length_cons, k2], fun j k b v z => ?_⟩
      cases j with
      | zero =>
        simp only [List.getElem?_cons_zero, Option.some.injEq, Prod.mk.injEq] at z
        obtain ⟨rfl, rfl, rfl⟩ := z
        exact ⟨T, rfl, rfl, o2, g1, g2, g3⟩
      | succ j =>
        simp only [List.getElem?_cons_succ] at z ⊢
        exact k3 j k b v z
  obtain ⟨ps, k1, k2, k3⟩ := key rv hp
  have lk : kvs.length = ps.length := Paired.length k1
  have lz : zs.length = kvs.length := Paired.length hp
  have lps : ps.length ≤ sizeLine := by omega
  refine call_dict_pairsH (knd := tupleKind (mixKind X.prog X.w)) (ps := ps) (PairArg.list a its.toArray (fun j => adr (zs[j]?.getD .non)) (ps.map fun p => (Value.ref p.2.1, p.2.2))) (I.ok.hd calm) (show X.A.units + 1 + 1 < cLine by omega) ⟨⟨_, n, ho, rfl, rfl, rfl⟩, by simp [k2], fun j k v hj => ?_⟩ ⟨(List.length_map _).symm, fun i key v hi => ?_⟩ (fun h' hk x hx => ?_) (by rw [List.length_map]; exact lps) fun h' tk hd hk => ?_
  · rw [List.getElem?_map] at hj
    obtain ⟨p, hp1, hp2⟩ := Option.map_eq_some_iff.mp hj
    cases hp2
    obtain ⟨T, z1, z2, z3⟩ := k3 j p.1 p.2.1 p.2.2 hp1
    have za : adr (zs[j]?.getD .non) = T := by rw [z1]; rfl
    show its.toArray[j]? = some (Value.ref (adr (zs[j]?.getD .non))) ∧ PairAt s.heap (adr (zs[j]?.getD .non)) _ _
    rw [za]
    exact ⟨by simpa using z2, .inl z3⟩
  · rw [PairRel, List.getElem?_map] at hi
    obtain ⟨p, hp1, hp2⟩ := Option.map_eq_some_iff.mp hi
    cases hp2
    exact ⟨p.1, p.2.1, hp1, rfl⟩
  · have all : ∀ {l : List (List L2.Key × V)} {m : List (List L2.Key × Addr × Value)}, KT H l m → ∀ x ∈ m, H x.2.1 = some (.tup (x.1.map kV)) := by
      intro l m q
      induction q with
      | nil => intro x hx; exact nomatch hx
      | @cons p q ps qs hq t ih =>
        intro x hx
        rcases List.mem_cons.mp hx with e | hx
        · subst e
          rw [← hq.1]
          exact hq.2.1
        · exact ih x hx
    have e := all k1 x hx
    obtain ⟨o, it, m, g1, g2, g3, g4⟩ := (show IsTupleKey (mixKind X.prog X.w) s.heap x.1 x.2.1 from key_of I.hok e)
    exact ⟨o, it, m, hk _ _ (fun z => by rw [z] at g1; exact absurd (Heap.lt_size g1) (Nat.lt_irrefl _)) (by simp) g1, g2, g3, g4⟩
  · have hn : H s.heap.objs.size = none := I.hok.fresh (Nat.le_refl _)
    have h1 := kt_all kvs ps [] [] k1 .nil
    have l1 := allK_len kvs []
    have hsys : (s.heap.objs.size == sysModules) = false := by
      have := I.big
      simpa using Nat.ne_of_gt this
    have h2 : KT (upd H s.heap.objs.size (.dT (allK kvs))) (allK kvs) (storedAllH [] ps) := KT.keeps h1 fun b ys e => by rw [upd_ne (ne_of_none e hn)]; exact e
    obtain ⟨o, es, ep, z1, z2, z3, z4, _, z5⟩ := hd
    exact ⟨.ref _, _, I.laid (o := .dT (allK kvs)) (t' := tk) (fun b u e => hk b u (by simp) e) (Nat.le_refl _) ⟨by
      show (allK kvs).length ≤ sizeLine
      unfold allK
      rw [List.length_nil] at l1
      omega, hsys, _, h2, o, es, ep, z1, z2, z3, z4, z5⟩, rfl, q _ hn⟩
/-! ### {(..): v, ..}: keys tuples -/
theorem dict_pairsHA {prog : Program} {w : World} {K : Type} [DecidableEq K] {knd : HeapKind prog w K} {A : Around} {E : Value → Shared → Prop} {s : Shared} {env : Env} {keys : List (Option Expr)} {values : List Expr} {pos : Pos} {pairs : List (Sem Value × Sem Value)} {Q : Value → Shared → Prop} (hu : knd.room A)
    (hshape : (evalEachOpt keys env).zip ((evalEach values env).map fun v => do let x ← v; standAt pos; pure x) = pairs.map fun p => (some p.1, p.2)) (h0 : pairs ≠ []) (hlen : pairs.length ≤ 15)
    (h : wpAny (model prog w) A (evalPairs pairs) (fun vs s₁ => ∃ ps, CarriesH knd s₁.heap vs ps ∧ s₁.heap.DictOfH knd s.heap.objs.size [] ∧
      ∀ h' tk, h'.DictOfH knd s.heap.objs.size (storedAllH [] ps) → Heap.SameBut s.heap.objs.size s₁.heap h' → Q (.ref s.heap.objs.size) { s₁ with heap := h', toks := tk }) E
      { s with heap := s.heap.push { cls := .type "dict", data := .dict #[] } }) :
    wpAny (model prog w) A (eval (.Dict keys values pos) env) Q E s := by
  rw [arm_eval_Dict, hshape, dictDisplay_pairs pairs h0 (by omega)]
  exact wpAny_bind (wpAny_standAt (wpAny_bind (wpAny_subDictH (knd := knd) (Q := fun d s' => wpAny (model prog w) A (pure (Value.ref d)) Q E s') hu hlen
    (wpAny_mono h (fun vs s₁ h₁ => by obtain ⟨ps, hc, hm, hq⟩ := h₁; exact ⟨ps, hc, hm, fun h' tk a b => wpAny_pure (hq h' tk a b)⟩) fun _ _ e => e))))
def tDispT (trs : List (TE × TE)) : TE := fun σ H Q => ∀ p, H p = none → tPairs trs σ (upd H p (.dT [])) fun ps H2 => H2 p = some (.dT []) ∧ ∃ kvs : List (List L2.Key × V), Paired (fun (q : V × V) (kv : List L2.Key × V) => ∃ b, q = (.ref b, kv.2) ∧ H2 b = some (.tup (kv.1.map kV))) ps kvs ∧ kvs.length ≤ 15 ∧ Q (.ref p) (upd H2 p (.dT (allK kvs)))
theorem carriesT {X : Cx} {pins : List (Addr × Obj)} {σ : L2.St} {H : Hp} {s : Shared} (I : Inv X pins σ H s) : ∀ {ps : List (V × V)} {kvs : List (List L2.Key × V)} {ws : List (Value × Value)}, VV ps ws → Paired (fun (q : V × V) (kv : List L2.Key × V) => ∃ b, q = (.ref b, kv.2) ∧ H b = some (.tup (kv.1.map kV))) ps kvs → ∃ rs, CarriesH (tupleKind (mixKind X.prog X.w)) s.heap ws rs ∧ KT H kvs rs
  | _, _, _, .nil, .nil => ⟨[], True.intro, .nil⟩
  | _, _, _, .cons (a := a) (b := b) r1 r2, .cons (b := kv) ⟨q, e, hq⟩ t => by
    obtain ⟨rs, c, k⟩ := carriesT I r2 t
    subst e
    obtain ⟨b1, b2⟩ := b
    obtain ⟨z1, z2⟩ := r1
    cases (show b1 = Value.ref q from z1)
    exact ⟨(kv.1, q, b2) :: rs, ⟨rfl, rfl, key_of I.hok hq, c⟩, .cons ⟨rfl, hq, z2⟩ k⟩
theorem pe_dispT {X : Cx} {pos : Pos} {keys : List (Option Expr)} {values : List Expr} {trs : List (TE × TE)} (hu : X.A.units + 1 < cLine) (h : PPs X pos keys values trs) (hall : keys.all (·.isSome) = true) (hl : keys.length = values.length) (h0 : keys ≠ [])
    (h15 : keys.length ≤ 15) : PE X (.Dict keys values pos) (tDispT trs) := by
  refine ⟨fun pins s σ H Q I q => ?_⟩
  have hn := I.hok.fresh (Nat.le_refl s.heap.objs.size)
  have I1 := I.laid (a := s.heap.objs.size) (o := .dT []) (h' := s.heap.push { cls := .type "dict", data := .dict #[] }) (t' := s.toks) (fun _ _ q => Heap.get?_push_of_some _ q) (Nat.le_refl _) (dt_empty s.heap I.big)
  have pl := pairTrees_length keys values X.env pos hall hl
  refine dict_pairsHA (knd := tupleKind (mixKind X.prog X.w)) (pairs := pairTrees keys values X.env pos) (show X.A.units < cLine by omega) (zip_pairTrees keys values X.env pos hall hl) (fun he => by
    rw [he] at pl
    exact h0 (List.length_eq_zero_iff.mp pl.symm)) (by rw [pl]; exact h15) (thn (h.run pins _ σ _ _ I1 (q _ hn)) fun ws s2 ⟨ps, H2, I2, rel, e, kvs, hp, lk, q2⟩ => ?_)
  obtain ⟨rs, c, rk⟩ := carriesT I2 rel hp
  obtain ⟨z, hd, vs0, r0, dd⟩ := dt_of I2.hok e
  cases r0
  refine ⟨rs, c, dd, fun h' tk dd' hs => ⟨.ref s.heap.objs.size, _, ?_, rfl, q2⟩⟩
  have hz := allK_len kvs []
  have he : ∃ q, h'.get? s.heap.objs.size = some q := let ⟨q, _, _, hq, _⟩ := dd'; ⟨q, hq⟩
  have h1 := kt_all kvs rs [] [] rk .nil
  obtain ⟨o, es, ep, z1, z2, z3, z4, _, z5⟩ := dd'
  exact d_write I2 (by rw [e]; exact True.intro) hs he (ob := .dT (allK kvs)) ⟨by
    show (allK kvs).length ≤ sizeLine
    unfold allK
    rw [sizeLine_eq]
    rw [List.length_nil] at hz
    omega, hd, _, KT.keeps h1 fun b ys eb => by rw [upd_ne (fun z => by rw [z, e] at eb; cases eb)]; exact eb, o, es, ep, z1, z2, z3, z4, z5⟩
/-! ### short words -/
section
variable {σ : L2.St} {H : Hp} {Q : VK} {td ty tx tv : TE} {a b : Addr} {kvs : List (List L2.Key × V)} {k : List L2.Key} {v : V} {y : V}
theorem L_isdT {R : Addr → Prop} (h : H a = some (.dT kvs)) (q : R a) : ∃ a', V.ref a = .ref a' ∧ IsD H a' ∧ R a' := ⟨a, rfl, .inr ⟨kvs, .inl h⟩, q⟩
theorem L_dgT {R : Option V → Prop} (h : H a = some (.dT kvs)) (hb : H b = some (.tup (k.map kV))) (q : R (valV kvs k)) : ∃ o, DGet H a (.ref b) o ∧ R o := ⟨_, DGet.t h hb, q⟩
theorem L_isdK {R : Addr → Prop} {kvs : List (L2.Key × V)} (h : H a = some (.dK kvs)) (q : R a) : ∃ a', V.ref a = .ref a' ∧ IsD H a' ∧ R a' := ⟨a, rfl, .inl ⟨kvs, .inl h⟩, q⟩
theorem L_dgK {R : Option V → Prop} {kvs : List (L2.Key × V)} {k : L2.Key} (e : y = kV k) (h : H a = some (.dK kvs)) (q : R (valV kvs k)) : ∃ o, DGet H a y o ∧ R o := ⟨_, by rw [e]; exact DGet.k h, q⟩
theorem L_dputT {R : Hp → Prop} (h : H a = some (.dT kvs)) (hb : H b = some (.tup (k.map kV))) (hl : kvs.length < 1000000) (q : R (upd H a (.dT (putK kvs k v)))) : ∃ a' H4, V.ref a = .ref a' ∧ DPut H a' (.ref b) v H4 ∧ R H4 := ⟨a, _, rfl, DPut.t h hb (sz_lt hl), q⟩
theorem L_dictT {us : List V} (h : H a = some (.lst us)) (hp : Paired (PairK H) us kvs) (q : ∀ d, H d = none → Q (.ref d) (upd H d (.dT (allK kvs)))) : rDictT [.ref a] H Q := ⟨a, us, kvs, rfl, h, hp, q⟩
end
theorem L_dispT1 {σ : L2.St} {H : Hp} {Q : VK} {tk tv : TE} (h : ∀ p, H p = none → tk σ (upd H p (.dT [])) fun x H1 => tv σ H1 fun y H2 => H2 p = some (.dT []) ∧ ∃ kvs : List (List L2.Key × V), Paired (fun (q : V × V) (kv : List L2.Key × V) => ∃ b, q = (.ref b, kv.2) ∧ H2 b = some (.tup (kv.1.map kV))) [(x, y)] kvs ∧ kvs.length ≤ 15 ∧ Q (.ref p) (upd H2 p (.dT (allK kvs)))) : tDispT [(tk, tv)] σ H Q := h
theorem allK_nd {kvs : List (List L2.Key × V)} (h : (kvs.map (·.1)).Nodup) : allK kvs = kvs := by
  have key : ∀ (kvs acc : List (List L2.Key × V)), ((acc ++ kvs).map (·.1)).Nodup → kvs.foldl (fun acc p => putK acc p.1 p.2) acc = acc ++ kvs := by
    intro kvs
    induction kvs with
    | nil => intro acc _; rw [List.append_nil]; rfl
    | cons p kvs ih =>
      intro acc n
      rw [List.foldl_cons]
      have e : putK acc p.1 p.2 = acc ++ [p] := by
        unfold putK
        rw [if_neg]
        intro z
        rw [List.any_eq_true] at z
        obtain ⟨q, hq, e⟩ := z
        rw [List.map_append, List.map_cons, List.nodup_append] at n
        exact n.2.2 q.1 (List.mem_map_of_mem hq) p.1 List.mem_cons_self (of_decide_eq_true e)
      rw [e, ih (acc ++ [p]) (by rw [List.append_assoc]; exact n), List.append_assoc]
      rfl
  exact key kvs [] h
theorem PairK.same {H H' : Hp} {u : V} {p : List L2.Key × V} (h : PairK H u p) (s : Same H H') : PairK H' u p := by
  obtain ⟨T, q, e, h1, h2⟩ := h
  exact ⟨T, q, e, s _ _ h1, s _ _ h2⟩
theorem PairK.mu {H : Hp} {u : V} {p : List L2.Key × V} {D : Addr} {us : List V} {o : HO} (h : PairK H u p) (e : H D = some (.lst us)) : PairK (upd H D o) u p := by
  obtain ⟨T, q, e1, h1, h2⟩ := h
  exact ⟨T, q, e1, by rw [upd_ne fun z => by rw [z, e] at h1; cases h1]; exact h1, by rw [upd_ne fun z => by rw [z, e] at h2; cases h2]; exact h2⟩
theorem L_disp2 {σ : L2.St} {H : Hp} {Q : VK} {ta tb tc td : TE} (h : ∀ p, H p = none → ta σ (upd H p (.dK [])) fun k H1 => tb σ H1 fun v H2 => tc σ H2 fun k2 H3 => td σ H3 fun v2 H4 => H4 p = some (.dK []) ∧ ∃ kvs : List (L2.Key × V), [(k, v), (k2, v2)] = kvs.map (fun kv => (kV kv.1, kv.2)) ∧ kvs.length ≤ 15 ∧ Q (.ref p) (upd H4 p (.dK (mergeK [] kvs)))) : tDisp [(ta, tb), (tc, td)] σ H Q := h
end Kt

set_option Elab.async false
set_option linter.all false
set_option maxRecDepth 100000
set_option maxHeartbeats 4000000
/-! Grp: defs and methods that call each other, by depth: the ends, where nothing is promised -/
namespace Kt
open PySem PySem.Spec PyProof.Rows L2
section
variable {P : Program} {w : World} {K : PySem.W.Frag} {mg : Str → Option Value} {base : Heap}
abbrev SpF : Sp := fun _ _ _ _ => False
theorem DefAt.cal0' {x : Str} {st : Stmt} {ps : List Str} {k : Nat} (d : DefAt K mg x st ps) : Cal P w K mg base k x SpF := by
  obtain ⟨f, fd, F, hm, b⟩ := d.ex
  exact ⟨f, fd, ps, ⟨fun _ _ _ _ h => h.elim, fun _ _ _ _ _ _ _ _ _ _ _ _ _ h => h.elim⟩, hm, F.kp, b⟩
theorem DefAt.calX0' {x : Str} {st : Stmt} {ps : List Str} {k : Nat} (d : DefAt K mg x st ps) : CalX P w K mg base k x SpF := by
  obtain ⟨f, fd, F, hm, b⟩ := d.ex
  exact ⟨f, fd, ps, ⟨fun _ _ _ _ h => h.elim, fun _ _ _ _ _ _ _ _ _ _ _ _ _ h => h.elim⟩, hm, F.kp, b⟩
theorem MethAt.met0' {C : Addr} {m qual : Str} {st : Stmt} {ps : List Str} {k : Nat} (c : Cls K C) (d : MethAt K C m qual st ps) : Met P w K mg base k C m SpF := by
  obtain ⟨f, fd, F, hm, b⟩ := d.ex
  exact ⟨f, fd, ps, c, hm, ⟨fun _ _ _ _ h => h.elim, fun _ _ _ _ _ _ _ _ _ _ _ _ _ h => h.elim⟩, b⟩
theorem MethAt.metX0' {C : Addr} {m qual : Str} {st : Stmt} {ps : List Str} {k : Nat} (c : Cls K C) (d : MethAt K C m qual st ps) : MetX P w K mg base k C m SpF := by
  obtain ⟨f, fd, F, hm, b⟩ := d.ex
  exact ⟨f, fd, ps, c, hm, ⟨fun _ _ _ _ h => h.elim, fun _ _ _ _ _ _ _ _ _ _ _ _ _ h => h.elim⟩, b⟩
end
end Kt

set_option Elab.async false
set_option linter.all false
set_option maxRecDepth 100000
set_option maxHeartbeats 4000000
/-! Hotx: methods that raise exceptions without a context; one with its own __init__ raised from None in an except suite -/
namespace Kt
open PySem PySem.Spec PyProof.Rows L2
structure MetN (P : Program) (w : World) (K : PySem.W.Frag) (mg : Str → Option Value) (base : Heap) (k : Nat) (C : Addr) (m : Str) (sp : Sp) : Prop where
  ex : ∃ (f : Addr) (fd : FuncData) (ps : List Str), Cls K C ∧ Meth K C m f ∧ FnOk P w K mg base (L2N.CX P w) k f fd ps sp ∧ Binds K fd ps []
structure XMakH (P : Program) (w : World) (K : PySem.W.Frag) (mg : Str → Option Value) (base : Heap) (k : Nat) (x : Str) (C : Addr) (sp : Sp) : Prop where
  ex : ∃ (f : Addr) (fd : FuncData) (ps : List Str), L2H.FnH P w K mg base CX0 k f fd ps sp ∧ PySem.W.findIn K (.ref C) "__init__" = some (some (.ref f)) ∧ PySem.W.typeIn K (.ref f) = some (.type "function") ∧ mg x = some (.ref C) ∧ Binds K fd ps []
section
variable {P : Program} {w : World} {K : PySem.W.Frag} {mg : Str → Option Value} {base : Heap}
theorem MethAt.metN {C : Addr} {m qual : Str} {st : Stmt} {N ps : List Str} {k : Nat} {sp : Sp} (c : Cls K C) (d : MethAt K C m qual st ps) (S : FnScope N ps (defScope st)) (len : ∀ vs H Q E, sp vs H Q E → vs.length = ps.length)
    (hbody : ∀ (f : Addr) (cdv : Value) (A : Around) (outer : List Env) (s : Shared) (H : Hp) (vs : List V) (Q : VK) (E : XK), Room k (A.deeper (envOfC qual (defScope st) s.heap.objs.size f cdv)) → sp vs H Q E →
      ∃ t, PSs (cxOf (L2N.CX P w) P w K mg base N qual (defScope st) f cdv A outer s H E) (defBody st) t ∧ t { nx := fun _ H' => Q .non H', rt := Q } (start N vs) H) : MetN P w K mg base (k + 1) C m sp := by
  obtain ⟨f, fd, F, hm, b⟩ := d.ex
  refine ⟨f, fd, ps, c, hm, ?_, b⟩
  obtain ⟨oc, od, kV, dc, pm, an, cv, ct, sl, rfl, at_, code⟩ := F.ex
  exact fn_of at_ code S len (hbody f cv)
theorem XIniAt.xmakH {x : Str} {C : Addr} {qual : Str} {st : Stmt} {N ps : List Str} {k : Nat} {sp : Sp} (hx : mg x = some (.ref C)) (d : XIniAt K C qual st ps) (S : FnScope N ps (defScope st)) (len : ∀ vs H Q E, sp vs H Q E → vs.length = ps.length)
    (hbody : ∀ (f : Addr) (cdv : Value) (A : Around) (outer : List Env) (s : Shared) (H : Hp) (vs : List V) (Q : VK) (E : XK) (p : Addr × Obj), L2H.RoomH k (A.deeper (envOfC qual (defScope st) s.heap.objs.size f cdv)) → sp vs H Q E →
      ∃ t, PSs (L2H.cxH CX0 P w K mg base N qual (defScope st) f cdv A outer s H E p) (defBody st) t ∧ t { nx := fun _ H' => Q .non H', rt := Q } (start N vs) H) : XMakH P w K mg base (k + 1) x C sp := by
  obtain ⟨f, fd, F, h1, h2, b⟩ := d.ex
  refine ⟨f, fd, ps, ?_, h1, beq_iff_eq.mp h2, hx, b⟩
  obtain ⟨oc, od, kV, dc, pm, an, cv, ct, sl, rfl, at_, code⟩ := F.ex
  exact L2H.fn_ofH at_ code S len fun A outer s H vs Q E p _ hr h => hbody f cv A outer s H vs Q E p hr h
theorem cxH_K {N : List Str} {qual : Str} {scope : Scope} {f : Addr} {cd : Value} {A : Around} {outer : List Env} {s : Shared} {H : Hp} {E : XK} {p : Addr × Obj} : (L2H.cxH CX0 P w K mg base N qual scope f cd A outer s H E p).K = K := rfl
end
section
variable {X : Cx} {k j : Nat} {C : Addr} {x m : Str} {sp : Sp} {p pos apos : Pos} {e o : Expr} {es : List Expr} {ta : TE} {t : TA} {E : L2.St → XK}
theorem passNN {X : Cx} (σ : L2.St) : PassesAt (L2N.CX X.prog X.w) X σ ((fun _ => E0) σ) := fun _ _ _ _ _ _ c => by
  obtain ⟨_, _, _, _, _, _, _, _, _, _, _, _, z⟩ := c
  exact z.elim
theorem pe_nMt {pl : Sem Bool} (c : MetN X.prog X.w X.K X.mg X.base k C m sp) (hr : Room j X.A) (hk : k ≤ j) (hx : ∀ σ, PassesAt (L2N.CX X.prog X.w) X σ (E σ)) (he : PE X o ta) (ha : PA X (e :: es) t)
    (hst : starEach (e :: es) X.env = (false, eval e X.env) :: starEach es X.env := by rfl) (hpl : (backTo pos (starEach es X.env)).any (·.1) = false := by rfl)
    (ht : eval (.Call (.Attribute o m apos) (e :: es) [] pos) X.env = (do
      let ov ← eval o X.env
      standAt apos.atName
      let (f, first) ← holding [ov] (getMethod ov m pl)
      callWith pos f first (backTo pos (starEach (e :: es) X.env)) (backToKw pos (keywordEach [] X.env))) := by rfl) :
    PE X (.Call (.Attribute o m apos) (e :: es) [] pos) (tMethE C m sp E ta t) := by
  obtain ⟨f, fd, ps, hc, hm, F, hb⟩ := c.ex
  constructor
  intro pins s σ H Q I h
  refine PySem.W.methodCall_KW (pl := pl) (thn (he.run pins s σ H _ I h) ?_) ht
  rintro u s1 ⟨_, H1, I1, ru, a, dx, fs, rfl, ea, l, q⟩
  obtain rfl : u = Value.ref a := ru
  refine getmeth_ok I1 ea hc hm l ?_
  refine PySem.W.callWith_K (first := [.ref a]) (h₀ := X.base) I.ok.mod.kin hm.kp (thn (ha.run pos pins s1 σ H1 _ I1 q) ?_) hst hpl
  rintro us s2 ⟨vs, H2, I2, r, q2⟩
  exact ⟨I2.kIn, run_fnS (us := .ref a :: us) (vs := .ref a :: vs) F (hr.mono hk) hb (hx σ) I2 (.cons rfl r) q2⟩
end
section
variable {X : Cx} {k j : Nat} {C : Addr} {x : Str} {sp : Sp} {p pos : Pos} {e : Expr} {es : List Expr} {ta : TA}
/-- such an exception made where none is handled: it bears no context -/
theorem pmkN_x (c : XMak X.prog X.w X.K X.mg X.base k x C sp) (T : OexC X.K C) (hr : Room j X.A) (hk : k + 1 ≤ j) (hg : Gl X x) (ha : PA X (e :: es) ta)
    (hdb : (x == ("__debug__" : Str)) = false := by decide) (he : starEach (e :: es) X.env = (false, eval e X.env) :: starEach es X.env := by rfl) (hpl : (backTo pos (starEach es X.env)).any (·.1) = false := by rfl) :
    L2N.PMk X (.Call (.Name x p) (e :: es) [] pos) (tMkO C sp [] ta) := by
  obtain ⟨fi, fd, ps, F, find, ty, named, binds⟩ := c.ex
  intro pins s σ H Q I h
  obtain ⟨_, _, _, _, refs, _, _, _, _, _, _, _, _, _, _, clsAt, refsOk⟩ := T.cls
  refine wpAny_Call_Name_kw (ld_glob I hg named ?_ hdb)
  refine PySem.W.callWith_K (h₀ := X.base) I.ok.mod.kin T.kC (thn (ha.run pos pins s σ H _ I h) ?_) he hpl
  rintro us ⟨hp, gs, dr, tk, os⟩ ⟨vs, H1, I1, rv, few, asked⟩
  refine ⟨I1.kIn, ?_⟩
  show wpAny _ _ (call (.ref C) us) _ _ _
  have past : hp.objs.size ≤ hp.objs.size + 1 := Nat.le_succ _
  have asked := asked (hp.objs.size + 1) (I1.hok.fresh past)
  rw [List.append_nil] at asked
  have stays : ∀ b o, hp.get? b = some o → ((hp.push (PySem.W.kdv_tup us)).push (PySem.HandSPX.excO C hp.objs.size)).get? b = some o :=
    fun b o e => Heap.get?_push_of_some _ (Heap.get?_push_of_some _ e)
  have there : ((hp.push (PySem.W.kdv_tup us)).push (PySem.HandSPX.excO C hp.objs.size)).get? (hp.objs.size + 1) = some (PySem.HandSPX.excO C hp.objs.size) := by
    heap_get
  have J := I1.laid (t' := tk) (o := exo (hp.objs.size + 1) C none) stays past (exo_ok there)
  have args : Vals (V.ref (hp.objs.size + 1) :: vs) (Value.ref (hp.objs.size + 1) :: us) := .cons rfl rv
  have many : (Value.ref (hp.objs.size + 1) :: us).length = ps.length := args.length.symm.trans (F.len _ _ _ _ asked)
  have bound := binds _ (Value.ref (hp.objs.size + 1) :: us) J.kIn (by rw [List.append_nil]; exact many)
  rw [List.append_nil] at bound
  have fits : us.length ≤ sizeLine := by
    have := Paired.length rv
    have := sizeLine_eq
    omega
  have room : Room (k + 1) X.A := hr.mono hk
  refine wpAny_call (PySem.HandSPX.call_own PySem.F.excBase_ValueError (fun Y => PySem.HandSPX.refsVE_contains Y refs refsOk) (I1.kIn _ _ clsAt) (PySem.W.looks_findIn I1.kIn find) (fun self => PySem.W.bind_fn I1.kIn self ty) fits ?_)
  refine codeAny_mono (F.run _ X.stack _ _ ⟨Value.ref (hp.objs.size + 1) :: us, []⟩ _ _ _ (fun _ _ _ => False) (room.make C us []) (J.env0.make C us []) bound args asked) fun out s' ho => ?_
  match out, ho with
  | .error _, ho => exact ho.elim
  | .ok .next, ho => exact ho.elim
  | .ok .brk, ho => exact ho.elim
  | .ok .cont, ho => exact ho.elim
  | .ok (.ret u), ho =>
    obtain ⟨v, H2, os2, bare2, un2, hok2, ru, hv, d, fs, ea, ed, free, q⟩ := ho
    subst hv
    obtain ⟨h2, g2, d2, t2, os'⟩ := s'
    obtain ⟨t0, G, J2, sub, gone, obj, na⟩ := mk_end0 (d2 := d2) (t2 := t2) I1 past stays un2 hok2 os2 bare2 ea ed free
    exact ⟨ru, hp.objs.size + 1, _, _, ⟨G, g2, d2, t2, os'⟩, _, .ref C, some d, rfl, J2, sub, gone, obj, ⟨rfl, rfl, fun vs e => by cases e; rfl⟩, rfl, rfl, na, rfl, bare2, raises_own T.exC T.tyC, q⟩
/-- in an except suite -/
theorem pmk5_x (c : XMakH X.prog X.w X.K X.mg X.base k x C sp) (T : OexC X.K C) (hr : L2H.RoomH j X.A) (hk : k + 1 ≤ j) (hot : L2H.HotC X) (hg : Gl X x) (ha : PA X (e :: es) ta)
    (hdb : (x == ("__debug__" : Str)) = false := by decide) (he : starEach (e :: es) X.env = (false, eval e X.env) :: starEach es X.env := by rfl) (hpl : (backTo pos (starEach es X.env)).any (·.1) = false := by rfl) :
    L2H.PMk5 X (.Call (.Name x p) (e :: es) [] pos) (tMkO C sp [] ta) := by
  obtain ⟨fi, fd, ps, F, find, ty, named, binds⟩ := c.ex
  exact L2H.pmk5_oexH T find ty F (hr.mono hk) hot binds pass0 hg named ha hdb he hpl
end
end Kt

set_option Elab.async false
set_option linter.all false
set_option maxRecDepth 100000
set_option maxHeartbeats 4000000
/-! Run: lambdas with parameters, lambdas within lambdas; calling what a name holds, by what it does -/
namespace Kt
open PySem PySem.Spec PyProof.Rows L2 LamX NdefX
/-- a code object with its table -/
def CodeN (c : Addr) (q : Str) (P : Addr) : HO := .ext fun h => (∃ (oc : Obj) (vs : Array Value) (t : Tok), h.get? c = some oc ∧ oc.data = .fields vs ∧ vs[1]? = some (.str q t)) ∧ PySem.W.CodeHd h c P
theorem codeN_ne {c P : Addr} {q : Str} (ps : Array Value) : CodeN c q P ≠ .tbl ps := fun z => by
  unfold CodeN at z
  cases z
theorem codeN_at {Pr : Program} {w : World} {H : Hp} {h : Heap} {c P : Addr} {q : Str} (hok : HOk Pr w H h) (e : H c = some (CodeN c q P)) : h.CodeRec (.ref c) q ∧ PySem.W.CodeHd h c P := by
  obtain ⟨⟨⟨oc, vs, t, h1, h2, h3⟩, hd⟩, _, _⟩ := hok c _ e
  exact ⟨⟨c, oc, vs, t, rfl, h1, h2, h3⟩, hd⟩
/-- a maker's table: where, the name of its lambdas, that of the lambdas within them -/
abbrev TX := Addr × Str × Option Str
/-- an address that no table of T has, nor the names -/
structure OffT (mg : Str → Option Value) (T : List TX) (P : Addr) : Prop where
  t : ∀ p ∈ T, p.1 ≠ P
  g : mainGlobals ≠ P
  b : ∀ bm, mg "__builtins__" = some (.ref bm) → bm ≠ P
/-- the code object at c of a lambda -/
def InT (mg : Str → Option Value) (T : List TX) (H : Hp) (c : Addr) (q : Str) : Option Str → Prop
  | none => H c = some (CodeO c q)
  | some q' => ∃ P0, H c = some (CodeN c q P0) ∧ OffT mg T P0 ∧ TabS H P0 q'
def TabX (mg : Str → Option Value) (T : List TX) (H : Hp) (p : TX) : Prop := ∃ ps : Array Value, H p.1 = some (.tbl ps) ∧ TriplesOk ps.toList ∧ ∀ (pos : Pos) (cv : Value), codeAmong pos ps.toList = some cv → ∃ c, cv = .ref c ∧ InT mg T H c p.2.1 p.2.2
def TabsX (mg : Str → Option Value) (T : List TX) (H : Hp) : Prop := ∀ p ∈ T, TabX mg T H p
theorem InT.ext {mg : Str → Option Value} {T : List TX} {H H' : Hp} {c : Addr} {q : Str} {i : Option Str} (t : InT mg T H c q i) (e : ∀ b o, H b = some o → H' b = some o) : InT mg T H' c q i := by
  cases i with
  | none => exact e _ _ t
  | some q' =>
    obtain ⟨P0, h1, h2, h3⟩ := t
    exact ⟨P0, e _ _ h1, h2, h3.ext e⟩
theorem TabsX.ext {mg : Str → Option Value} {T : List TX} {H H' : Hp} (t : TabsX mg T H) (e : ∀ b o, H b = some o → H' b = some o) : TabsX mg T H' := fun p hp => by
  obtain ⟨ps, h1, h2, h3⟩ := t p hp
  refine ⟨ps, e _ _ h1, h2, fun pos cv hc => ?_⟩
  obtain ⟨c, e1, e2⟩ := h3 pos cv hc
  exact ⟨c, e1, e2.ext e⟩
theorem tabsX_nil {mg : Str → Option Value} {cs : List (Addr × Addr)} {T : List TX} {H : Hp} (h : ∀ p ∈ cs, H p.2 = some (.tbl #[])) (hs : ∀ t ∈ T, ∃ p ∈ cs, p.2 = t.1) : TabsX mg T H := fun t ht => by
  obtain ⟨p, hp, e⟩ := hs t ht
  refine ⟨#[], by rw [← e]; exact h p hp, True.intro, fun pos cv hc => ?_⟩
  have z : codeAmong pos [] = some cv := hc
  simp [codeAmong] at z
/-- tables but one are as they were, that one has more: what is known of code objects stays -/
theorem tabS_grow {H H1 : Hp} {P0 : Addr} {q' : Str} (old : TabS H P0 q') (stay : ∀ b u, H b = some u → (∀ ps, u ≠ .tbl ps) → H1 b = some u) {D : Addr} (oth : ∀ b, b ≠ D → ∀ u, H b = some u → H1 b = some u) (neu : P0 = D → TabS H1 P0 q') : TabS H1 P0 q' := by
  by_cases c : P0 = D
  · exact neu c
  · obtain ⟨ps, h1, h2, h3⟩ := old
    refine ⟨ps, oth _ c _ h1, h2, fun pos cv hc => ?_⟩
    obtain ⟨c, e1, e2⟩ := h3 pos cv hc
    exact ⟨c, e1, stay _ _ e2 codeO_ne⟩
section
variable {X : Cx} {pins : List (Addr × Obj)} {σ : L2.St} {H : Hp} {s : Shared}
/-- what is known of an object may be told anew -/
theorem reknow {a : Addr} {φ ψ : Heap → Prop} (I : Inv X pins σ H s) (na : H a = some (.ext φ)) (ok : ψ s.heap ∧ (∃ o, s.heap.get? a = some o) ∧ ∀ h1 h2 : Heap, ψ h1 → (∀ o, h1.get? a = some o → h2.get? a = some o) → ψ h2) : Inv X pins σ (upd H a (.ext ψ)) s where
  ok := I.ok
  os := I.os
  bare := I.bare
  base := {
    keep := I.base.keep
    slot := I.base.slot
    free := fun b o e n hx => by
      have f := I.base.free b o e n hx
      rw [upd_ne fun z => by rw [z, na] at f; cases f]
      exact f
    there := I.base.there
    tups := fun b xs q => by
      have t := I.base.tups b xs q
      rw [upd_ne fun z => by rw [z, na] at t; cases t]; exact t
    frzs := fun b o u q => by
      have t := I.base.frzs b o u q
      rw [upd_ne fun z => by rw [z, na] at t; cases t]; exact t
    tbls := fun b ps q => by
      obtain ⟨more, t⟩ := I.base.tbls b ps q
      exact ⟨more, by rw [upd_ne fun z => by rw [z, na] at t; cases t]; exact t⟩ }
  loc := I.loc
  cell := I.cell
  free := by
    have f := I.free
    rw [upd_ne fun z => by rw [z, na] at f; cases f]
    exact f
  freeC := fun x c e => by
    have f := I.freeC x c e
    rw [upd_ne fun z => by rw [z, na] at f; cases f]
    exact f
  pin := fun p hp => by
    obtain ⟨h1, h2, h3⟩ := I.pin p hp
    exact ⟨h1, by rw [upd_ne fun z => by rw [z, na] at h2; cases h2]; exact h2, h3⟩
  hok := fun b o e => by
    by_cases hb : b = a
    · cases hb
      rw [upd_same] at e
      cases e
      exact ok
    · rw [upd_ne hb] at e
      have keep : ∀ c u, H c = some u → (∀ χ, u ≠ .ext χ) → upd H a (.ext ψ) c = some u := fun c u q n => by
        rw [upd_ne fun z => by rw [z, na] at q; exact n _ (Option.some.inj q).symm]
        exact q
      exact (I.hok b o e).stay (fun _ _ _ q => q) (fun c q => keep _ _ q (fun _ z => nomatch z)) fun c xs q => keep _ _ q (fun _ z => nomatch z)
  len := I.len
/-- a table that is there is known from now on -/
theorem knownT {a : Addr} {ps : Array Value} (I : Inv X pins σ H s) (na : H a = none) (ok : s.heap.get? a = some { cls := .none, data := .fields ps })
    (nb : ∀ o, X.s_0.heap.get? a = some o → X.H_0 a ≠ none) (nL : a ≠ X.env.locals) (nC : ∀ x c, X.env.cells.lookup x = some c → c ≠ a) (np : ∀ p ∈ X.pn ++ pins, p.1 ≠ a) : Inv X pins σ (upd H a (.tbl ps)) s where
  ok := I.ok
  os := I.os
  bare := I.bare
  base := {
    keep := I.base.keep
    slot := I.base.slot
    free := fun b o e n hx => by
      rw [upd_ne fun z => nb o (by rw [← z]; exact e) (by rw [← z]; exact n)]
      exact I.base.free b o e n hx
    there := I.base.there
    tups := fun b xs q => by
      have t := I.base.tups b xs q
      rw [upd_ne (ne_of_none t na)]; exact t
    frzs := fun b o u q => by
      have t := I.base.frzs b o u q
      rw [upd_ne (ne_of_none t na)]; exact t
    tbls := fun b ps q => by
      obtain ⟨more, t⟩ := I.base.tbls b ps q
      exact ⟨more, by rw [upd_ne (ne_of_none t na)]; exact t⟩ }
  loc := I.loc
  cell := I.cell
  free := by rw [upd_ne nL.symm]; exact I.free
  freeC := fun x c e => by rw [upd_ne (nC x c e)]; exact I.freeC x c e
  pin := fun p hp => by
    obtain ⟨h1, h2, h3⟩ := I.pin p hp
    exact ⟨h1, by rw [upd_ne (np p hp)]; exact h2, h3⟩
  hok := fun b o e => by
    by_cases hb : b = a
    · cases hb
      rw [upd_same] at e
      cases e
      exact ok
    · rw [upd_ne hb] at e
      exact (I.hok b o e).stay (fun _ _ _ q => q) (fun c q => by rw [upd_ne (ne_of_none q na)]; exact q) fun c xs q => by rw [upd_ne (ne_of_none q na)]; exact q
  len := I.len
end
section
variable {M : Model} {A : Around} {E : Value → Shared → Prop} {s : Shared} {q0 q1 : Str} {pr : Arguments} {bd : Expr} {sc : Scope} {ev : Env} {c P : Addr} {tb : Array Value} {at_ : Pos} {ln : Nat} {mg : Str → Option Value}
  {clos : List (Str × Addr)} {Q : Value → Shared → Prop}
/-- a lambda whose code object is new: its table, too -/
theorem makeLam (hcl : closureFor sc ev = pure clos) (hge : ev.globals = mainGlobals) (hns : s.heap.Ns mainGlobals mg) (hcd : ev.code = .ref c) (HC : PySem.W.CodeHd s.heap c P) (hT : s.heap.get? P = some (PySem.W.tabObj tb)) (hok : TriplesOk tb.toList)
    (hno : codeAmong at_ tb.toList = none) (ngP : mainGlobals ≠ P) (hbu : s.heap.BuiltinsAt mg P)
    (k : ∀ c' P' ctv g tk, Heap.ExtBut P s.heap g → s.heap.objs.size ≤ c' → c' < g.objs.size → s.heap.objs.size ≤ P' → g.CodeRec (.ref c') q1 → PySem.W.CodeHd g c' P' → g.get? P' = some (PySem.W.tabObj #[]) → g.get? P = some (PySem.W.tabObj (tb ++ #[rawInt at_.line, rawInt at_.col, .ref c'])) →
      Q (.ref g.objs.size) { s with heap := g.push (PySem.W.kla_obj q0 q1 pr bd sc clos ((mg "__name__").getD .none) c' ctv), toks := tk }) :
    wpAny M A (makeFunction q0 q1 pr (.expr bd) sc ev [] [] [] at_ ln) Q E s := by
  obtain ⟨bm, ob, hbm, hne0, _, hneP, hbo, hcls, hdict, hdata⟩ := hbu
  rw [makeFunction_eq]
  simp only [List.zip_nil_right, List.filterMap_nil, List.isEmpty_nil, if_true, pure_bind]
  unfold makeTail
  rw [hcl, hge]
  refine wpAny_bind (wpAny_pure ?_)
  cases clos with
  | nil =>
    simp only [List.isEmpty_nil, if_true]
    refine wpAny_bind (wpAny_pure (wpAny_bind (wpAny_functionCodeX hcd (HC.code hT hok) (HC.tab hT) hno fun c' g tk hx big lt _ rec_ tab new => ?_)))
    obtain ⟨P', bigP, ic, ta⟩ := new
    exact wpAny_bind (wpAny_builtinsFor (hns.extBut hx ngP) hbm hne0 (hx _ _ hneP hbo) hcls hdict hdata (wpAny_bind (wpAny_nsGet (hns.extBut hx ngP) (wpAny_bind (wpAny_pure (wpAny_newObj_type (k c' P' .none g tk hx big lt bigP rec_ (.of ic ta) ta.2 tab.2) (by size_fits)))))))
  | cons y r =>
    simp only [List.isEmpty_cons, Bool.false_eq_true, if_false]
    refine wpAny_bind (wpAny_newTextTuple ?_)
    have up : ∀ {ob : Obj} b o, s.heap.get? b = some o → (s.heap.push ob).get? b = some o := fun b o e => Heap.get?_push_of_some _ e
    refine wpAny_bind (wpAny_functionCodeX hcd ((HC.keeps up).code (up _ _ hT) hok) ((HC.keeps up).tab (up _ _ hT)) hno fun c' g tk hx big lt _ rec_ tab new => ?_)
    obtain ⟨P', bigP, ic, ta⟩ := new
    have hx' : Heap.ExtBut P s.heap g := fun b o hb e => hx b o hb (up _ _ e)
    have big' : ∀ {n : Nat} {ob : Obj}, (s.heap.push ob).objs.size ≤ n → s.heap.objs.size ≤ n := fun h => Nat.le_trans (by rw [Heap.size_push]; omega) h
    have hns' := (hns.push _).extBut hx ngP
    exact wpAny_bind (wpAny_builtinsFor hns' hbm hne0 (hx' _ _ hneP hbo) hcls hdict hdata (wpAny_bind (wpAny_nsGet hns' (wpAny_bind (wpAny_pure (wpAny_newObj_type (k c' P' _ g tk hx' (big' big) lt (big' bigP) rec_ (.of ic ta) ta.2 tab.2) (by size_fits)))))))
end
/-! ### making a lambda -/
section
variable {X : Cx} {pins : List (Addr × Obj)} {σ : L2.St} {H : Hp} {s : Shared}
/-- the tables behind the making of a lambda -/
theorem tabs_after {mg : Str → Option Value} {T : List TX} {H H1 : Hp} {P c' : Addr} {q : Str} {inner : Option Str} {pos : Pos} {ps : Array Value} (tP : H P = some (.tbl ps)) (ok : TriplesOk ps.toList)
    (known : ∀ (p' : Pos) (cv : Value), codeAmong p' ps.toList = some cv → ∃ c, cv = .ref c ∧ InT mg T H c q inner) (hT : TabsX mg T H) (hself : ∀ p ∈ T, p.1 = P → p.2 = (q, inner))
    (hneu : ∀ q', (∃ p ∈ T, p.2.2 = some q') → ∀ P0, OffT mg T P0 → P0 = P → q' = q ∧ inner = none)
    (stay : ∀ b u, H b = some u → (∀ qs, u ≠ .tbl qs) → H1 b = some u) (oth : ∀ b, b ≠ P → ∀ u, H b = some u → H1 b = some u) (atP : H1 P = some (.tbl (ps ++ #[rawInt pos.line, rawInt pos.col, .ref c']))) (neu : InT mg T H1 c' q inner) :
    TabsX mg T H1 ∧ ∀ c q0 i, (i = none ∨ ∃ p ∈ T, p.2.2 = i) → InT mg T H c q0 i → InT mg T H1 c q0 i := by
  have list : (ps ++ #[rawInt pos.line, rawInt pos.col, .ref c']).toList = ps.toList ++ [rawInt pos.line, rawInt pos.col, .ref c'] := by simp
  have own : inner = none → TabS H1 P q := fun e => by
    subst e
    refine ⟨_, atP, by rw [list]; exact PySem.TriplesOk_snoc _ _ _ _ ok, fun p' cv hcv => ?_⟩
    rw [list] at hcv
    rcases among_app _ ok hcv with z | z
    · obtain ⟨c0, r1, r2⟩ := known p' cv z
      exact ⟨c0, r1, stay _ _ r2 codeO_ne⟩
    · exact ⟨c', z, neu⟩
  have it : ∀ c q0 i, (i = none ∨ ∃ p ∈ T, p.2.2 = i) → InT mg T H c q0 i → InT mg T H1 c q0 i := fun c q0 i hi h => by
    cases i with
    | none => exact stay _ _ h codeO_ne
    | some q' =>
      obtain ⟨P0, h1, h2, h3⟩ := h
      refine ⟨P0, stay _ _ h1 codeN_ne, h2, tabS_grow h3 stay (D := P) oth fun z => ?_⟩
      obtain ⟨e1, e2⟩ := hneu q' (hi.resolve_left (fun z => nomatch z)) P0 h2 z
      rw [z, e1]
      exact own e2
  refine ⟨fun p hp => ?_, it⟩
  obtain ⟨qs, r1, r2, r3⟩ := hT p hp
  by_cases hb : p.1 = P
  · have e2 := hself p hp hb
    obtain ⟨p1, p2⟩ := p
    cases hb
    cases e2
    rw [tP] at r1
    cases r1
    refine ⟨_, atP, by rw [list]; exact PySem.TriplesOk_snoc _ _ _ _ ok, fun p' cv hcv => ?_⟩
    rw [list] at hcv
    rcases among_app _ ok hcv with z | z
    · obtain ⟨c0, w1, w2⟩ := known p' cv z
      exact ⟨c0, w1, it _ _ _ (.inr ⟨_, hp, rfl⟩) w2⟩
    · exact ⟨c', z, neu⟩
  · refine ⟨qs, oth _ hb _ r1, r2, fun p' cv hcv => ?_⟩
    obtain ⟨c0, w1, w2⟩ := r3 p' cv hcv
    exact ⟨c0, w1, it _ _ _ (.inr ⟨_, hp, rfl⟩) w2⟩
/-- a lambda is made: its code object is new, or found in the table at P -/
theorem lamX_make {T : List TX} {c P : Addr} {q : Str} {inner : Option Str} {params : Arguments} {body : Expr} {scope : Scope} {pos : Pos} {ps : Array Value} {E : Value → Shared → Prop} {R : Value → Shared → Prop} (I : Inv X pins σ H s)
    (HC : PySem.W.CodeHd s.heap c P) (bP : s.heap.BuiltinsAt X.mg P) (gP : mainGlobals ≠ P) (hcode : X.env.code = .ref c) (hq : X.env.qual ++ "<lambda>" = q) (tP : H P = some (.tbl ps)) (ok : TriplesOk ps.toList)
    (known : ∀ (p' : Pos) (cv : Value), codeAmong p' ps.toList = some cv → ∃ c, cv = .ref c ∧ InT X.mg T H c q inner) (hT : TabsX X.mg T H) (hself : ∀ p ∈ T, p.1 = P → p.2 = (q, inner))
    (hneu : ∀ q', (∃ p ∈ T, p.2.2 = some q') → ∀ P0, OffT X.mg T P0 → P0 = P → q' = q ∧ inner = none)
    (hdef : defaultsOf params X.env = ([], [])) (hfree : ∀ y ∈ scope.names, y.2 = .free → ∃ c, X.env.cells.lookup y.1 = some c)
    (k : ∀ (f c' : Addr) (H1 : Hp) (t : Shared), Inv X pins σ H1 t → ExtN H H1 → TabsX X.mg T H1 → (∀ c q0 i, (i = none ∨ ∃ p ∈ T, p.2.2 = i) → InT X.mg T H c q0 i → InT X.mg T H1 c q0 i) → (∀ b, H1 b = none → H b = none) → H f = none → H1 f = some (LamO f ⟨q, params, body, scope, cloFrom X.env.cells scope.names [], c'⟩) → InT X.mg T H1 c' q inner → R (.ref f) t) :
    wpAny (model X.prog X.w) X.A (eval (.Lambda params body scope pos) X.env) R E s := by
  subst hq
  refine PySem.W.kla_eval hdef ?_
  have heapP : s.heap.get? P = some { cls := .none, data := .fields ps } := I.hok P _ tP
  have refl_it : ∀ {H1 : Hp}, (∀ b o, H b = some o → H1 b = some o) → ∀ c q0 i, (i = none ∨ ∃ p ∈ T, p.2.2 = i) → InT X.mg T H c q0 i → InT X.mg T H1 c q0 i := fun e c q0 i _ h => h.ext e
  cases found : codeAmong pos ps.toList with
  | some cv =>
    obtain ⟨c', rfl, hc'⟩ := known pos cv found
    refine PySem.W.kla_makeFunctionHit (mg := X.mg) (c := c) (P := P) (ps := ps) (closure_ok hfree) I.ok.glob (I.mod.glob.keeps I.bk) hcode HC heapP ok found bP fun ctv g tk keep big => ?_
    have J : Inv X pins σ H { s with heap := g, toks := tk } := I.kept keep
    have free : H g.objs.size = none := J.hok.fresh (Nat.le_refl _)
    have J2 := lam_known (F := ⟨X.env.qual ++ "<lambda>", params, body, scope, cloFrom X.env.cells scope.names [], c'⟩) (pm := (X.mg "__name__").getD .none) (ctv := ctv) (t := tk) J
    have more : ∀ b o, H b = some o → upd H g.objs.size (LamO g.objs.size ⟨X.env.qual ++ "<lambda>", params, body, scope, cloFrom X.env.cells scope.names [], c'⟩) b = some o := fun b o e => (upd_ne (ne_of_none e free)).trans e
    exact k _ c' _ _ J2 (.of more) (hT.ext more) (refl_it more) (fun b e => upd_none e) free upd_same (hc'.ext more)
  | none =>
    refine makeLam (mg := X.mg) (c := c) (P := P) (tb := ps) (closure_ok hfree) I.ok.glob (I.mod.glob.keeps I.bk) hcode HC heapP ok found gP bP fun c' P' ctv g tk keep big lt bigP rec_ cd tab' tab => ?_
    obtain ⟨c2, oc, vs, tt, e2, hoc, hd, hv⟩ := rec_
    cases e2
    have free : H c' = none := I.hok.fresh big
    have freeP : H P' = none := I.hok.fresh bigP
    have J := inv_table (t' := tk) (more := #[rawInt pos.line, rawInt pos.col, .ref c']) (h' := g) I tP (fun b o n e => keep b o n e) tab big ⟨oc, vs, tt, hoc, hd, hv⟩
    have stay0 : ∀ b u, H b = some u → (∀ qs, u ≠ .tbl qs) → upd (upd H P (.tbl (ps ++ #[rawInt pos.line, rawInt pos.col, .ref c']))) c' (CodeO c' (X.env.qual ++ "<lambda>")) b = some u := fun b u e n => by
      rw [upd_ne (ne_of_none e free), upd_ne fun z => n ps (by rw [z, tP] at e; exact (Option.some.inj e).symm)]
      exact e
    have oth0 : ∀ b, b ≠ P → ∀ u, H b = some u → upd (upd H P (.tbl (ps ++ #[rawInt pos.line, rawInt pos.col, .ref c']))) c' (CodeO c' (X.env.qual ++ "<lambda>")) b = some u := fun b n u e => by
      rw [upd_ne (ne_of_none e free), upd_ne n]
      exact e
    have atP0 : upd (upd H P (.tbl (ps ++ #[rawInt pos.line, rawInt pos.col, .ref c']))) c' (CodeO c' (X.env.qual ++ "<lambda>")) P = some (.tbl (ps ++ #[rawInt pos.line, rawInt pos.col, .ref c'])) := by
      rw [upd_ne (ne_of_none tP free), upd_same]
    have atC0 : upd (upd H P (.tbl (ps ++ #[rawInt pos.line, rawInt pos.col, .ref c']))) c' (CodeO c' (X.env.qual ++ "<lambda>")) c' = some (CodeO c' (X.env.qual ++ "<lambda>")) := upd_same
    have gone0 : ∀ b, H b = none → b ≠ c' → upd (upd H P (.tbl (ps ++ #[rawInt pos.line, rawInt pos.col, .ref c']))) c' (CodeO c' (X.env.qual ++ "<lambda>")) b = none := fun b e n => by
      rw [upd_ne n, upd_ne fun z => by rw [z, tP] at e; cases e]
      exact e
    generalize upd (upd H P (.tbl (ps ++ #[rawInt pos.line, rawInt pos.col, .ref c']))) c' (CodeO c' (X.env.qual ++ "<lambda>")) = H1 at J stay0 oth0 atP0 atC0 gone0
    have nPc : P' ≠ c' := fun z => by
      obtain ⟨o, _, _, _, _, _, _, _, _, _, _, _, _, _, _, _, _, _, n⟩ := cd
      exact n z.symm
    have nPP : P' ≠ P := fun z => by rw [z, tP] at freeP; cases freeP
    -- the heap with what is known of the code object
    obtain ⟨H2, J2, stay, oth, atP, neu⟩ : ∃ H2 : Hp, Inv X pins σ H2 { s with heap := g, toks := tk } ∧ (∀ b u, H b = some u → (∀ qs, u ≠ .tbl qs) → H2 b = some u) ∧ (∀ b, b ≠ P → ∀ u, H b = some u → H2 b = some u) ∧
        H2 P = some (.tbl (ps ++ #[rawInt pos.line, rawInt pos.col, .ref c'])) ∧ InT X.mg T H2 c' (X.env.qual ++ "<lambda>") inner := by
      cases inner with
      | none => exact ⟨H1, J, stay0, oth0, atP0, atC0⟩
      | some q' =>
        have fP1 : H1 P' = none := gone0 _ freeP nPc
        have lt0 : ∀ {b : Addr} {o : Obj}, s.heap.get? b = some o → b ≠ P' := fun e z => Nat.lt_irrefl _ (Nat.lt_of_lt_of_le (Heap.lt_size e) (by rw [z]; exact bigP))
        have J3 := knownT (a := P') (ps := #[]) J fP1 tab' (fun o e n => by
            obtain ⟨m, ⟨ob, es, ep, ho, _⟩, _⟩ := I.loc
            exact Nat.lt_irrefl _ (Nat.lt_of_lt_of_le (Nat.lt_of_le_of_lt I.ok.above (Heap.lt_size ho)) (Nat.le_trans bigP (Nat.le_of_lt (Heap.lt_size e))))) (fun z => by
            obtain ⟨m, ⟨ob, es, ep, ho, _⟩, _⟩ := I.loc
            exact lt0 ho z.symm) (fun x c e z => by
            obtain ⟨v, o, ho, _⟩ := I.cell x c e
            exact lt0 ho z) (fun p hp z => lt0 (I.pin p hp).1 z)
        have J4 := reknow (a := c') (ψ := fun h => (∃ (oc : Obj) (vs : Array Value) (t : Tok), h.get? c' = some oc ∧ oc.data = .fields vs ∧ vs[1]? = some (.str (X.env.qual ++ "<lambda>") t)) ∧ PySem.W.CodeHd h c' P') J3 (by rw [upd_ne nPc.symm]; exact atC0)
          ⟨⟨⟨oc, vs, tt, hoc, hd, hv⟩, cd⟩, ⟨oc, hoc⟩, fun h1 h2 ⟨⟨a1, a2, a3, b1, b2, b3⟩, d⟩ st => ⟨⟨a1, a2, a3, st _ b1, b2, b3⟩, by
            obtain ⟨o, v1, v2, v3, v4, v5, v6, v7, v8, w1, w2⟩ := d
            exact ⟨o, v1, v2, v3, v4, v5, v6, v7, v8, st _ w1, w2⟩⟩⟩
        have up : ∀ b u, H1 b = some u → b ≠ c' → upd (upd H1 P' (.tbl #[])) c' (CodeN c' (X.env.qual ++ "<lambda>") P') b = some u := fun b u e n => by
          rw [upd_ne n, upd_ne (ne_of_none e fP1)]
          exact e
        have nc : ∀ b u, H b = some u → b ≠ c' := fun b u e => ne_of_none e free
        refine ⟨upd (upd H1 P' (.tbl #[])) c' (CodeN c' (X.env.qual ++ "<lambda>") P'), J4, fun b u e n => up _ _ (stay0 b u e n) (nc b u e), fun b n u e => up _ _ (oth0 b n u e) (nc b u e), up _ _ atP0 (nc _ _ tP), P', upd_same, ⟨fun p hp z => ?_, fun z => ?_, fun bm hb z => ?_⟩, .nil (by rw [upd_ne nPc, upd_same])⟩
        · obtain ⟨qs, r1, _⟩ := hT p hp
          rw [z, freeP] at r1
          cases r1
        · obtain ⟨ob, es, ep, ho, _⟩ := I.mod.glob.keeps I.bk
          exact lt0 ho z
        · obtain ⟨bm2, ob, e1, _, _, _, e5, _⟩ := bP
          rw [hb] at e1
          cases e1
          exact lt0 e5 z
    obtain ⟨T2, it2⟩ := tabs_after (pos := pos) tP ok known hT hself hneu stay oth atP neu
    have freeF : H2 g.objs.size = none := J2.hok.fresh (Nat.le_refl _)
    have J5 := lam_known (F := ⟨X.env.qual ++ "<lambda>", params, body, scope, cloFrom X.env.cells scope.names [], c'⟩) (pm := (X.mg "__name__").getD .none) (ctv := ctv) (t := tk) J2
    have more : ∀ b o, H2 b = some o → upd H2 g.objs.size (LamO g.objs.size ⟨X.env.qual ++ "<lambda>", params, body, scope, cloFrom X.env.cells scope.names [], c'⟩) b = some o := fun b o e => (upd_ne (ne_of_none e freeF)).trans e
    have freeH : H g.objs.size = none := I.hok.fresh (Nat.le_trans big (Nat.le_of_lt lt))
    exact k _ c' _ _ J5 (fun b o e n => more _ _ (stay b o e n)) (T2.ext more) (fun c0 q0 i hi h => (it2 c0 q0 i hi h).ext more) (fun b e => by
      have e2 := upd_none e
      cases z : H b with
      | none => rfl
      | some u =>
        by_cases hb : b = P
        · rw [hb, atP] at e2; cases e2
        · rw [oth b hb u z] at e2; cases e2) freeH upd_same (neu.ext more)
end
/-! ### a heap that grows; lists of W may change -/
structure Ew (mg : Str → Option Value) (T : List TX) (W : Addr → Prop) (H H' : Hp) : Prop where
  ex : ∀ b o, H b = some o → (∀ ps, o ≠ .tbl ps) → (W b → ∀ xs, o ≠ .lst xs) → H' b = some o
  dm : ∀ b, H' b = none → H b = none
  tb : TabsX mg T H → TabsX mg T H'
  it : ∀ c q i, (i = none ∨ ∃ p ∈ T, p.2.2 = i) → InT mg T H c q i → InT mg T H' c q i
abbrev No : Addr → Prop := fun _ => False
section
variable {mg : Str → Option Value} {T : List TX} {W W' : Addr → Prop} {H H1 H' : Hp}
theorem Ew.refl : Ew mg T W H H := ⟨fun _ _ h _ _ => h, fun _ h => h, id, fun _ _ _ _ h => h⟩
theorem Ew.trans (a : Ew mg T W H H1) (b : Ew mg T W H1 H') : Ew mg T W H H' := ⟨fun c o h n m => b.ex c o (a.ex c o h n m) n m, fun c h => a.dm c (b.dm c h), fun t => b.tb (a.tb t), fun c q i hi h => b.it c q i hi (a.it c q i hi h)⟩
theorem Ew.same (s : Same H H') : Ew mg T W H H' where
  ex := fun b o h _ _ => s b o h
  dm := fun b h => by
    cases e : H b with
    | none => rfl
    | some o => rw [s b o e] at h; cases h
  tb := fun t => t.ext s
  it := fun _ _ _ _ h => h.ext s
theorem Ew.up (e : Ew mg T W H H') (h : ∀ b, W b → W' b) : Ew mg T W' H H' := ⟨fun b o hb n m => e.ex b o hb n fun w => m (h b w), e.dm, e.tb, e.it⟩
theorem Ew.no (e : Ew mg T No H H') : Ew mg T W H H' := e.up fun _ z => z.elim
theorem Ew.tup (e : Ew mg T W H H') {a : Addr} {xs : List V} (h : H a = some (.tup xs)) : H' a = some (.tup xs) := e.ex _ _ h (fun _ z => nomatch z) fun _ _ z => nomatch z
theorem Ew.ins (e : Ew mg T W H H') {a C d : Addr} {fs : List (Str × V)} (h : H a = some (.ins C d fs)) : H' a = some (.ins C d fs) := e.ex _ _ h (fun _ z => nomatch z) fun _ _ z => nomatch z
theorem Ew.lst (e : Ew mg T W H H') {a : Addr} {xs : List V} (n : ¬ W a) (h : H a = some (.lst xs)) : H' a = some (.lst xs) := e.ex _ _ h (fun _ z => nomatch z) fun w => (n w).elim
theorem Ew.lst0 (e : Ew mg T No H H') {a : Addr} {xs : List V} (h : H a = some (.lst xs)) : H' a = some (.lst xs) := e.lst (fun z => z) h
theorem Ew.seqT {K : PySem.W.Frag} (e : Ew mg T W H H') {a : Addr} {xs : List V} (h : SqT K H a xs) : SqT K H' a xs := by
  rcases h with (h | ⟨o, h⟩) | h
  · exact .inl (.inl (e.tup h))
  · exact .inl (.inr ⟨o, e.ex _ _ h (fun _ z => nomatch z) fun _ _ z => nomatch z⟩)
  · exact .inr h
theorem Ew.seq {K : PySem.W.Frag} (e : Ew mg T W H H') {a : Addr} {xs : List V} (n : ¬ W a) (h : SqL K H a xs) : SqL K H' a xs := by
  rcases h with (h | ⟨o, h⟩) | h
  · exact .inl (.inl (e.lst n h))
  · exact .inl (.inr ⟨o, e.ex _ _ h (fun _ z => nomatch z) fun _ _ z => nomatch z⟩)
  · exact .inr h
theorem Ew.seq0 {K : PySem.W.Frag} (e : Ew mg T No H H') {a : Addr} {xs : List V} (h : SqL K H a xs) : SqL K H' a xs := e.seq (fun z => z) h
theorem Ew.dp {K : PySem.W.Frag} (e : Ew mg T No H H') {v : V} {d : PyData} (h : Dp K H v d) : Dp K H' v d := Dp_sq (fun _ _ => e.seq0) (fun _ _ => e.seqT) d h
theorem Ew.dpA {K : PySem.W.Frag} (e : Ew mg T No H H') {vs : List V} {ds : List PyData} (h : DpAll K H vs ds) : DpAll K H' vs ds := DpAll_sq (fun _ _ => e.seq0) (fun _ _ => e.seqT) ds h
theorem Ew.exN (e : Ew mg T No H H') : ExtN H H' := fun b o h n => e.ex b o h n fun z => z.elim
theorem tabS_mut {P : Addr} {q : Str} {D : Addr} {us : List V} {o : HO} (t : TabS H P q) (h : H D = some (.lst us)) : TabS (upd H D o) P q := by
  obtain ⟨ps, e1, ok, k⟩ := t
  have keep : ∀ b o', H b = some o' → (∀ l, o' ≠ .lst l) → upd H D o b = some o' := fun b o' hb ne => by
    rw [upd_ne fun z => by rw [z, h] at hb; exact ne _ (Option.some.inj hb).symm]
    exact hb
  refine ⟨ps, keep _ _ e1 (fun _ z => nomatch z), ok, fun pos cv hc => ?_⟩
  obtain ⟨c, rfl, hcc⟩ := k pos cv hc
  exact ⟨c, rfl, keep _ _ hcc (fun l z => by unfold CodeO at z; cases z)⟩
theorem InT.mut {c : Addr} {q : Str} {i : Option Str} {D : Addr} {us : List V} {o : HO} (t : InT mg T H c q i) (h : H D = some (.lst us)) : InT mg T (upd H D o) c q i := by
  have keep : ∀ b o', H b = some o' → (∀ l, o' ≠ .lst l) → upd H D o b = some o' := fun b o' hb ne => by
    rw [upd_ne fun z => by rw [z, h] at hb; exact ne _ (Option.some.inj hb).symm]
    exact hb
  cases i with
  | none => exact keep _ _ t (fun l z => by unfold CodeO at z; cases z)
  | some q' =>
    obtain ⟨P0, h1, h2, h3⟩ := t
    exact ⟨P0, keep _ _ h1 (fun l z => by unfold CodeN at z; cases z), h2, tabS_mut h3 h⟩
theorem TabsX.mut {D : Addr} {us : List V} {o : HO} (t : TabsX mg T H) (h : H D = some (.lst us)) : TabsX mg T (upd H D o) := fun p hp => by
  obtain ⟨ps, e1, ok, k⟩ := t p hp
  refine ⟨ps, by rw [upd_ne fun z => by rw [z, h] at e1; cases e1]; exact e1, ok, fun pos cv hc => ?_⟩
  obtain ⟨c, e, i⟩ := k pos cv hc
  exact ⟨c, e, i.mut h⟩
/-- a new list, or one of W, is changed -/
theorem Ew.mut {D : Addr} {us : List V} {o : HO} (e : Ew mg T W H H1) (n : W D ∨ H D = none) (h : H1 D = some (.lst us)) : Ew mg T W H (upd H1 D o) := ⟨fun b o' hb ne m => by
  rw [upd_ne fun z => by
    rw [z] at hb m
    rcases n with n | n
    · have := e.dm
      by_cases c : ∃ xs, o' = .lst xs
      · obtain ⟨xs, rfl⟩ := c
        exact m n xs rfl
      · have := e.ex D o' hb ne fun _ xs z => c ⟨xs, z⟩
        rw [h] at this
        exact c ⟨us, (Option.some.inj this).symm⟩
    · rw [n] at hb; cases hb]
  exact e.ex b o' hb ne m, fun b hb => e.dm b (upd_none hb), fun t => (e.tb t).mut h, fun c q i hi t => (e.it c q i hi t).mut h⟩
/-- what is made by a lambda's making -/
theorem Ew.made (x : ExtN H H') (t : TabsX mg T H') (i : ∀ c q i, (i = none ∨ ∃ p ∈ T, p.2.2 = i) → InT mg T H c q i → InT mg T H' c q i) (d : ∀ b, H' b = none → H b = none) : Ew mg T W H H' := ⟨fun b o h n _ => x b o h n, d, fun _ => t, i⟩
end
/-! ### making, as a reading -/
/-- a lambda of the maker whose table is told in T -/
def tLamX (mg : Str → Option Value) (T : List TX) (inner : Option Str) (mk : Addr → LF) : TE := fun _ H Q => TabsX mg T H ∧ ∀ (f c' : Addr) (H1 : Hp), Ew mg T No H H1 → TabsX mg T H1 → H f = none → H1 f = some (LamO f (mk c')) → InT mg T H1 c' (mk c').qual inner → Q (.ref f) H1
/-- a lambda within a lambda, whose code object is c -/
def tLamD (mg : Str → Option Value) (T : List TX) (c : Addr) (q q' : Str) (mk : Addr → LF) : TE := fun _ H Q => TabsX mg T H ∧ InT mg T H c q (some q') ∧ ∀ (f c' : Addr) (H1 : Hp), Ew mg T No H H1 → TabsX mg T H1 → H f = none → H1 f = some (LamO f (mk c')) → InT mg T H1 c' q' none → Q (.ref f) H1
section
variable {X : Cx}
theorem pe_lamX {T : List TX} {c P : Addr} {q : Str} {inner : Option Str} (st : Stmt) (e : Expr) (h : e = .Lambda (lamP st e) (lamB e) (lamS st e) (lamPos e)) (TB : TabB X.base X.mg c P) (hcode : X.env.code = .ref c) (hq : X.env.qual ++ "<lambda>" = q)
    (hm : (P, q, inner) ∈ T) (hu : ∀ p ∈ T, p.1 = P → p.2 = (q, inner)) (hdef : defaultsOf (lamP st e) X.env = ([], [])) (hfree : ∀ y ∈ (lamS st e).names, y.2 = .free → X.env.scope.names.lookup y.1 = some .cell ∨ X.env.scope.names.lookup y.1 = some .free) :
    PE X e (tLamX X.mg T inner fun c' => ⟨q, lamP st e, lamB e, lamS st e, cloFrom X.env.cells (lamS st e).names [], c'⟩) := by
  rw [h]
  constructor
  intro pins s σ H Q I h
  obtain ⟨hT, h⟩ := h
  obtain ⟨ps, tP, ok, known⟩ := hT _ hm
  exact lamX_make I (TB.code.keeps I.bk) (TB.bm.keeps I.bk) TB.gP hcode hq tP ok known hT hu (fun q' _ P0 o z => absurd z.symm (o.t _ hm)) hdef
    (fun y hy e => (hfree y hy e).elim (fun z => I.ok.has _ (.inl z)) fun z => I.ok.has _ (.inr z)) fun f c' H1 t J ex T1 it dm hf e1 e2 => ⟨.ref f, H1, J, rfl, h f c' H1 (.made ex T1 it dm) T1 hf e1 e2⟩
theorem pe_lamD {T : List TX} {c c0 P : Addr} {q q' : Str} (st : Stmt) (e : Expr) (h : e = .Lambda (lamP st e) (lamB e) (lamS st e) (lamPos e)) (TB : TabB X.base X.mg c P) (hcode : X.env.code = .ref c0) (hq : X.env.qual ++ "<lambda>" = q')
    (hin : ∀ p ∈ T, ∀ z, p.2.2 = some z → z = q') (hdef : defaultsOf (lamP st e) X.env = ([], [])) (hfree : ∀ y ∈ (lamS st e).names, y.2 = .free → X.env.scope.names.lookup y.1 = some .cell ∨ X.env.scope.names.lookup y.1 = some .free) :
    PE X e (tLamD X.mg T c0 q q' fun c' => ⟨q', lamP st e, lamB e, lamS st e, cloFrom X.env.cells (lamS st e).names [], c'⟩) := by
  rw [h]
  constructor
  intro pins s σ H Q I h
  obtain ⟨hT, ⟨P0, hc, off, ps, tP, ok, known⟩, h⟩ := h
  have bP : s.heap.BuiltinsAt X.mg P0 := by
    obtain ⟨bm, o, b1, b2, b3, _, b5⟩ := TB.bm.keeps I.bk
    exact ⟨bm, o, b1, b2, b3, off.b bm b1, b5⟩
  exact lamX_make (inner := none) I (codeN_at I.hok hc).2 bP off.g hcode hq tP ok known hT (fun p hp z => absurd z (off.t p hp)) (fun z ⟨p, hp, e⟩ _ _ _ => ⟨hin p hp z e, rfl⟩) hdef
    (fun y hy e => (hfree y hy e).elim (fun z => I.ok.has _ (.inl z)) fun z => I.ok.has _ (.inr z)) fun f c' H1 t J ex T1 it dm hf e1 e2 => ⟨.ref f, H1, J, rfl, h f c' H1 (.made ex T1 it dm) T1 hf e1 e2⟩
end
/-! ### calling what a name holds -/
/-- what stands at f may be called -/
def FnC (f : Addr) (H : Hp) : Prop := ∀ (P : Program) (w : World) (s : Shared), HOk P w H s.heap → PySem.W.FnAt f s.heap
/-- called with vs at H: Q -/
structure RunOk (P : Program) (w : World) (K : PySem.W.Frag) (mg : Str → Option Value) (base : Heap) (k : Nat) (f : Addr) (vs : List V) (H : Hp) (Q : VK) : Prop where
  fn : FnC f H
  run : ∀ (A : Around) (outer : List Env) (s : Shared) (us : List Value), Room k A → Env0 P w K mg base A outer s H → Vals vs us → codeAny (model P w) A (.call (.ref f) ⟨us, []⟩) (CR CX0 outer P w H s Q fun _ _ _ => False) s
theorem RunOk.le {P : Program} {w : World} {K : PySem.W.Frag} {mg : Str → Option Value} {base : Heap} {k j : Nat} {f : Addr} {vs : List V} {H : Hp} {Q : VK} (h : RunOk P w K mg base k f vs H Q) (hk : k ≤ j) : RunOk P w K mg base j f vs H Q := ⟨h.fn, fun A outer s us hr => h.run A outer s us (hr.mono hk)⟩
theorem RunOk.imp {P : Program} {w : World} {K : PySem.W.Frag} {mg : Str → Option Value} {base : Heap} {k : Nat} {f : Addr} {vs : List V} {H : Hp} {Q Q' : VK} (h : RunOk P w K mg base k f vs H Q) (m : ∀ v H1, Q v H1 → Q' v H1) : RunOk P w K mg base k f vs H Q' := ⟨h.fn, fun A outer s us hr e0 r => codeAny_mono (h.run A outer s us hr e0 r) fun r s2 hq => by
  cases r with
  | error e => exact hq
  | ok fl =>
    cases fl with
    | ret u =>
      obtain ⟨v, H2, h1, h2, h3, h4, h5, h6⟩ := hq
      exact ⟨v, H2, h1, h2, h3, h4, h5, m _ _ h6⟩
    | next => exact hq
    | brk => exact hq
    | cont => exact hq⟩
abbrev RunT := Addr → List V → Hp → VK → Prop
/-- x() -/
def tRun0 (R : RunT) (i : Nat) : TE := fun σ H Q => ∃ f, σ[i]? = some (some (.ref f)) ∧ R f [] H Q
/-- x(..) -/
def tRun1 (R : RunT) (i : Nat) (t : TA) : TE := fun σ H Q => ∃ f, σ[i]? = some (some (.ref f)) ∧ FnC f H ∧ t σ H fun vs H1 => R f vs H1 Q
section
variable {X : Cx} {R : RunT} {i j k : Nat} {x : Str} {p pos : Pos}
theorem run_call {pins : List (Addr × Obj)} {σ : L2.St} {H : Hp} {s : Shared} {Q : VK} {f : Addr} {us : List Value} {vs : List V} (h : RunOk X.prog X.w X.K X.mg X.base k f vs H Q) (hr : Room j X.A) (hk : k ≤ j) (I : Inv X pins σ H s) (r : Vals vs us) :
    wpAny (model X.prog X.w) X.A (call (.ref f) us) (EP X pins σ Q) X.xe s := by
  refine wpAny_call (codeAny_mono (h.run X.A X.stack s us (hr.mono hk) I.env0 r) fun r s2 hq => ?_)
  cases r with
  | error e => exact hq.elim
  | ok fl =>
    cases fl with
    | ret u => exact I.after hq
    | next => exact hq.elim
    | brk => exact hq.elim
    | cont => exact hq.elim
theorem pe_run0 (h : ∀ f vs H Q, R f vs H Q → RunOk X.prog X.w X.K X.mg X.base k f vs H Q) (hr : Room j X.A) (hk : k ≤ j) (hN : X.N[i]? = some x) (hv : Vis X.env.scope x)
    (hd : (x == ("__debug__" : Str)) = false := by decide) (hcd : (x == ("__classdict__" : Str)) = false := by decide) : PE X (.Call (.Name x p) [] [] pos) (tRun0 R i) := by
  constructor
  intro pins s σ H Q I hq
  obtain ⟨f, hs, hq⟩ := hq
  refine wpAny_Call_Name_kw (thn ((pe_var (pos := p) hN hv hd hcd).run pins s σ H (fun v H1 => v = .ref f ∧ H1 = H) I ⟨.ref f, hs, rfl, rfl⟩) fun u s1 ⟨v, H1, I1, r1, ev, eH⟩ => ?_)
  subst ev
  rw [eH] at I1
  obtain rfl : u = Value.ref f := r1
  refine PySem.W.callWith_F0 (first := []) ((h _ _ _ _ hq).fn _ _ _ I1.hok) ?_
  show wpAny _ _ (call (.ref f) []) _ _ _
  exact run_call (h _ _ _ _ hq) hr hk I1 .nil
theorem pe_run1 {t : TA} {e : Expr} {es : List Expr} (h : ∀ f vs H Q, R f vs H Q → RunOk X.prog X.w X.K X.mg X.base k f vs H Q) (hr : Room j X.A) (hk : k ≤ j) (hN : X.N[i]? = some x) (hv : Vis X.env.scope x) (ha : PA X (e :: es) t)
    (hd : (x == ("__debug__" : Str)) = false := by decide) (hcd : (x == ("__classdict__" : Str)) = false := by decide)
    (he : starEach (e :: es) X.env = (false, eval e X.env) :: starEach es X.env := by rfl) (hpl : (backTo pos (starEach es X.env)).any (·.1) = false := by rfl) : PE X (.Call (.Name x p) (e :: es) [] pos) (tRun1 R i t) := by
  constructor
  intro pins s σ H Q I hq
  obtain ⟨f, hs, hf, ht⟩ := hq
  refine wpAny_Call_Name_kw (thn ((pe_var (pos := p) hN hv hd hcd).run pins s σ H (fun v H1 => v = .ref f ∧ H1 = H) I ⟨.ref f, hs, rfl, rfl⟩) fun u s1 ⟨v, H1, I1, r1, ev, eH⟩ => ?_)
  subst ev
  rw [eH] at I1
  obtain rfl : u = Value.ref f := r1
  refine PySem.W.callWith_F (first := []) (hf _ _ _ I1.hok) (thn (ha.run pos pins s1 σ H _ I1 ht) fun us s2 ⟨vs, H2, I2, r, q⟩ => ⟨(h _ _ _ _ q).fn _ _ _ I2.hok, ?_⟩) he hpl
  show wpAny _ _ (call (.ref f) us) _ _ _
  exact run_call (h _ _ _ _ q) hr hk I2 r
end
/-! ### what a lambda promises -/
structure LOkP (P : Program) (w : World) (K : PySem.W.Frag) (mg : Str → Option Value) (base : Heap) (T : List TX) (k : Nat) (q : Str) (params : Arguments) (body : Expr) (scope : Scope) (fr : List Str) (inner : Option Str) (sp : List V → List V → Hp → VK → Prop) : Prop where
  run : ∀ (f c : Addr) (cl : List (Str × Addr)) (A : Around) (outer : List Env) (s : Shared) (H : Hp) (ws vs : List V) (us : List Value) (Q : VK), Room k A → Env0 P w K mg base A outer s H → H f = some (LamO f ⟨q, params, body, scope, cl, c⟩) → InT mg T H c q inner →
    CellsAt cl fr (ws.map some) s.heap H → Vals vs us → sp ws vs H Q → codeAny (model P w) A (.call (.ref f) ⟨us, []⟩) (CR CX0 outer P w H s Q fun _ _ _ => False) s
theorem inT_rec {P : Program} {w : World} {mg : Str → Option Value} {T : List TX} {H : Hp} {h : Heap} {c : Addr} {q : Str} {inner : Option Str} (hok : HOk P w H h) (t : InT mg T H c q inner) : h.CodeRec (.ref c) q := by
  cases inner with
  | none => exact codeO_at hok t
  | some q' =>
    obtain ⟨P0, h1, _⟩ := t
    exact (codeN_at hok h1).1
section
variable {P : Program} {w : World} {K : PySem.W.Frag} {mg : Str → Option Value} {base : Heap} {T : List TX}
/-- a lambda by its body -/
theorem lokP_of {N ps fr : List Str} {k : Nat} {q : Str} {params : Arguments} {body : Expr} {scope : Scope} {inner : Option Str} {sp : List V → List V → Hp → VK → Prop} (S : NScope N ps fr scope)
    (hb : ∀ (cl : List (Str × Addr)) (c : Addr) (pm ctv : Value) (us : List Value), us.length = ps.length → bindArgs (PySem.W.kla_fn "<lambda>" q params body scope cl pm (.ref c) ctv) ⟨us, []⟩ = pure (ps.zip us)) (len : ∀ ws vs H Q, sp ws vs H Q → vs.length = ps.length)
    (hbody : ∀ (f c : Addr) (cl : List (Str × Addr)) (A : Around) (outer : List Env) (s : Shared) (H : Hp) (ws vs : List V) (Q : VK), Room k (A.deeper (envF ⟨"<lambda>", q, params, [], scope, cl, c⟩ f s.heap.objs.size)) → ws.length = fr.length → InT mg T H c q inner → sp ws vs H Q →
      ∃ t, PE (ncx CX0 P w K mg base N ⟨"<lambda>", q, params, [], scope, cl, c⟩ f A outer s H fun _ _ _ => False) body t ∧ t (startF N vs (ws.map some)) H Q) : LOkP P w K mg base T (k + 1) q params body scope fr inner sp := by
  constructor
  intro f c cl A outer s H ws vs us Q hr e0 hf hc C r h
  have lim : s.heap.NoLimit := e0.mod.nolimit.keeps fun b o e => (e0.bs b o e).1
  obtain ⟨⟨pm, ctv, ho⟩, _⟩ := e0.hok f _ hf
  refine PySem.W.kla_callFunE hr.depth ho rfl S.co S.gen rfl (inT_rec e0.hok hc) ?_
  have hl := len _ _ _ _ h
  rw [hb cl c pm ctv us (by rw [← r.length]; exact hl)]
  refine wpAny_pure (wpAny_newFunctionEnv S.nocell (fun ⟨n, _⟩ hy => S.par n (List.of_mem_zip hy).1) (fun g hns hsb => ⟨lim.fresh _ hsb, ?_⟩) S.kind)
  show codeAny _ _ (.expr body (envF ⟨"<lambda>", q, params, [], scope, cl, c⟩ f s.heap.objs.size)) _ _
  have kp : ∀ b o, s.heap.get? b = some o → g.get? b = some o := fun b o e => hsb.extBut b o (Nat.ne_of_lt (Heap.lt_size e)) (Heap.get?_push_of_some _ e)
  have wl := C.len
  rw [List.length_map] at wl
  obtain ⟨t, ht, hq⟩ := hbody f c cl A outer s H ws vs Q (hr.deeper _) wl hc h
  have I : Inv (ncx CX0 P w K mg base N ⟨"<lambda>", q, params, [], scope, cl, c⟩ f A outer s H fun _ _ _ => False) [] (startF N vs (ws.map some)) H { s with heap := g, toks := s.toks + (ps.zip us).length } := inv_startN S hr.hd e0 hl r C hns kp
  refine PySem.W.kla_codeExpr (wpAny_mono (ht.run [] _ _ H Q I hq) (fun v s' hv => ?_) fun e s' he => he)
  obtain ⟨x, H', J, rv, hx⟩ := hv
  exact ⟨x, H', J.os, J.bare, J.base, J.hok, rv, hx⟩
end
/-! ### a lambda whose one parameter is captured by a lambda within it -/
/-- its names: the parameter, a cell; then the captured ones -/
structure CScope (N : List Str) (x : Str) (fr : List Str) (sc : Scope) : Prop where
  kind : sc.kind = .function
  co : sc.isCoroutine = false
  gen : sc.isGenerator = false
  nd : N.Nodup
  pre : N.take (1 + fr.length) = x :: fr
  par : sc.names.lookup x = some .cell
  one : sc.names.filter (fun y => y.2 == .cell) = [(x, .cell)]
  free : ∀ y ∈ sc.names, y.2 = .free → y.1 ∈ fr
  frk : ∀ y ∈ fr, sc.names.lookup y = some .free
def cscB (N : List Str) (x : Str) (fr : List Str) (sc : Scope) : Bool :=
  decide (sc.kind = .function) && !sc.isCoroutine && !sc.isGenerator && decide N.Nodup && decide (N.take (1 + fr.length) = x :: fr) && decide (sc.names.lookup x = some .cell) && decide (sc.names.filter (fun y => y.2 == .cell) = [(x, .cell)]) && sc.names.all (fun y => !decide (y.2 = .free) || decide (y.1 ∈ fr)) && fr.all (fun y => decide (sc.names.lookup y = some .free))
theorem cscope_by {N : List Str} {x : Str} {fr : List Str} {sc : Scope} (h : cscB N x fr sc = true) : CScope N x fr sc := by
  unfold cscB at h
  simp only [Bool.and_eq_true, Bool.not_eq_true', decide_eq_true_eq, List.all_eq_true, Bool.or_eq_true, decide_eq_false_iff_not] at h
  obtain ⟨⟨⟨⟨⟨⟨⟨⟨h1, h2⟩, h3⟩, h4⟩, h5⟩, h6⟩, h7⟩, h8⟩, h9⟩ := h
  exact ⟨h1, h2, h3, h4, h5, h6, h7, fun y hy e => (h8 y hy).elim (fun z => absurd e z) id, h9⟩
theorem cells_none : ∀ (names : List (Str × NameKind)) (n : Nat) (acc : List (Str × Addr)), names.filter (fun y => y.2 == .cell) = [] → cellsFrom n names acc = acc ∧ ∀ h, pushCells h names = h
  | [], _, _, _ => ⟨rfl, fun _ => rfl⟩
  | (y, kd) :: r, n, acc, h => by
    have hk : (kd == NameKind.cell) = false := by
      cases e : kd == NameKind.cell with
      | false => rfl
      | true => rw [List.filter_cons_of_pos (by exact e)] at h; cases h
    rw [List.filter_cons_of_neg (by simp [hk])] at h
    have ih := cells_none r n acc h
    refine ⟨?_, fun g => ?_⟩
    · unfold cellsFrom
      rw [hk]
      exact ih.1
    · unfold pushCells
      rw [hk]
      exact ih.2 g
theorem cells_one {x : Str} : ∀ (names : List (Str × NameKind)) (n : Nat) (acc : List (Str × Addr)), names.filter (fun y => y.2 == .cell) = [(x, .cell)] → cellsFrom n names acc = (x, n) :: acc ∧ ∀ h, pushCells h names = h.push { cls := .type "cell", data := .cell none }
  | [], _, _, h => by cases h
  | (y, kd) :: r, n, acc, h => by
    cases e : kd == NameKind.cell with
    | true =>
      rw [List.filter_cons_of_pos (by exact e)] at h
      obtain ⟨h1, h2⟩ := List.cons.inj h
      cases h1
      have ih := cells_none r (n + 1) ((x, n) :: acc) h2
      refine ⟨?_, fun g => ?_⟩
      · unfold cellsFrom
        exact ih.1
      · unfold pushCells
        exact ih.2 _
    | false =>
      rw [List.filter_cons_of_neg (by simp [e])] at h
      have ih := cells_one r n acc h
      refine ⟨?_, fun g => ?_⟩
      · unfold cellsFrom
        rw [e]
        exact ih.1
      · unfold pushCells
        rw [e]
        exact ih.2 g
section
variable {M : Model} {A : Around} {E : Value → Shared → Prop} {s : Shared}
theorem newEnv_cell {sc : Scope} {gl : Addr} {cl : List (Str × Addr)} {x : Str} {v : Value} {qual : Str} {fn : Option Addr} {cd : Value} {bu : Addr} {Q : Env → Shared → Prop} (hk : sc.kind = .function) (h1 : sc.names.filter (fun y => y.2 == .cell) = [(x, .cell)]) (hl : sc.names.lookup x = some .cell)
    (k : ∀ g, g.IsCell (s.heap.objs.size + 1) (some v) → g.Ns s.heap.objs.size (fun _ => none) → (∀ b o, s.heap.get? b = some o → g.get? b = some o) → Q (newEnv sc s.heap.objs.size gl ((x, s.heap.objs.size + 1) :: cl) qual fn cd none bu) { s with heap := g }) :
    wpAny M A (newFunctionEnv sc gl cl [(x, v)] qual fn cd none bu) Q E s := by
  obtain ⟨c1, c2⟩ := cells_one (x := x) sc.names (s.heap.objs.size + 1) cl h1
  simp only [newFunctionEnv, Option.isSome_none, Bool.false_eq_true, if_false]
  refine wpAny_bind (wpAny_alloc (wpAny_bind (wpAny_layCells _ (fun name kind cells => by cases z : kind == NameKind.cell <;> simp [z]) _ _ _ _ ?_)))
  rw [show ({ s with heap := s.heap.push { cls := .type "frame", data := .dict #[] } } : Shared).heap.objs.size = s.heap.objs.size + 1 from Heap.size_push .., c1, c2]
  simp only [List.forIn_cons, List.forIn_nil, bind_assoc, pure_bind]
  have ic : ((s.heap.push { cls := .type "frame", data := .dict #[] }).push { cls := .type "cell", data := .cell none }).IsCell (s.heap.objs.size + 1) none := by
    have e := Heap.get?_push_size (s.heap.push { cls := .type "frame", data := .dict #[] }) (o := { cls := .type "cell", data := .cell none }) rfl
    rw [Heap.size_push] at e
    exact ⟨_, e, rfl⟩
  have ns : ((s.heap.push { cls := .type "frame", data := .dict #[] }).push { cls := .type "cell", data := .cell none }).Ns s.heap.objs.size (fun _ => none) := (Heap.Ns.new s.heap (.type "frame")).keeps fun b o e => Heap.get?_push_of_some _ e
  have kp : ∀ b o, s.heap.get? b = some o → ((s.heap.push { cls := .type "frame", data := .dict #[] }).push { cls := .type "cell", data := .cell none }).get? b = some o := fun b o e => Heap.get?_push_of_some _ (Heap.get?_push_of_some _ e)
  refine wpAny_bind (wpAny_storeName_cell hk hl (by simp [List.lookup]) ic fun g hg sb => ?_)
  refine (wpAny_pure (k g hg (ns.sameBut sb (Nat.ne_of_lt (Nat.lt_succ_self _))) fun b o e => sb.extBut b o (Nat.ne_of_lt (Nat.lt_succ_of_lt (Heap.lt_size e))) (kp b o e)))
end
abbrev envC (F : NF) (x : Str) (f L : Addr) : Env := { envF F f L with cells := (x, L + 1) :: F.cl }
/-- its context -/
def ncxC (CX : CXT) (P : Program) (w : World) (K : PySem.W.Frag) (mg : Str → Option Value) (base : Heap) (N : List Str) (F : NF) (x : Str) (f : Addr) (A : Around) (outer : List Env) (s : Shared) (H : Hp) (E : XK) : Cx where
  prog := P
  w := w
  K := K
  mg := mg
  base := base
  A := A.deeper (envC F x f s.heap.objs.size)
  N := N
  s_0 := s
  H_0 := H
  env := envC F x f s.heap.objs.size
  outer := outer
  stack := envC F x f s.heap.objs.size :: outer
  ex := []
  calm := true
  fn := fun _ => false
  pn := []
  xe := fun e s' => wpAny (model P w) (A.deeper (envC F x f s.heap.objs.size)) (leaving (envC F x f s.heap.objs.size) e) (fun _ s'' => CX outer H s E e s'') (fun e' s'' => CX outer H s E e' s'') s'
section
variable {CX : CXT} {P : Program} {w : World} {K : PySem.W.Frag} {mg : Str → Option Value} {base : Heap} {N fr : List Str} {F : NF} {x : Str} {f : Addr} {A : Around} {outer : List Env} {s : Shared} {H : Hp} {E : XK} {u : Value} {v : V} {ws : List (Option V)}
theorem lookup_own {l : List (Str × Addr)} {c : Addr} : ((x, c) :: l).lookup x = some c := by simp [List.lookup]
theorem lookup_oth {l : List (Str × Addr)} {c : Addr} {y : Str} (n : y ≠ x) : ((x, c) :: l).lookup y = l.lookup y := by
  rw [List.lookup_cons]
  have : (y == x) = false := by simpa using n
  rw [this]
theorem inv_startC {g : Heap} (S : CScope N x fr F.scope) (hd : A.handled = none) (e0 : Env0 P w K mg base A outer s H) (r : RelV v u) (C : CellsAt F.cl fr ws s.heap H) (ic : g.IsCell (s.heap.objs.size + 1) (some u)) (hns : g.Ns s.heap.objs.size fun _ => none)
    (kp : ∀ b o, s.heap.get? b = some o → g.get? b = some o) : Inv (ncxC CX P w K mg base N F x f A outer s H E) [] (startF N [v] ws) H { s with heap := g } := by
  have hpl : 1 + fr.length ≤ N.length := by
    have q := congrArg List.length S.pre
    rw [List.length_take, List.length_cons] at q
    omega
  have noA : ∀ b : Addr, b ∉ (ncxC CX P w K mg base N F x f A outer s H E).ex := fun b z => absurd (show b ∈ ([] : List Addr) from z) (by simp)
  have cellK : ∀ {c : Addr} {v : Option Value}, s.heap.IsCell c v → g.IsCell c v := fun {c v} ⟨o, ho, hd⟩ => ⟨o, kp _ _ ho, hd⟩
  have old : ∀ {y : Str} {c : Addr}, F.cl.lookup y = some c → c < s.heap.objs.size := fun {y c} e => by
    obtain ⟨_, v0, z⟩ := C.all y c e
    exact z.lt
  have frx : ∀ y ∈ fr, y ≠ x := fun y hy z => by
    have := S.frk y hy
    rw [z, S.par] at this
    cases this
  have wh : ∀ {y : Str} {c : Addr}, ((x, s.heap.objs.size + 1) :: F.cl).lookup y = some c → (y = x ∧ c = s.heap.objs.size + 1) ∨ (y ≠ x ∧ F.cl.lookup y = some c) := fun {y c} e => by
    by_cases h : y = x
    · subst h
      rw [lookup_own] at e
      exact .inl ⟨rfl, (Option.some.inj e).symm⟩
    · rw [lookup_oth h] at e
      exact .inr ⟨h, e⟩
  have ndN := S.nd
  refine ⟨⟨e0.mod, S.kind, rfl, rfl, Nat.le_refl _, fun y z c h1 h2 => ?_, fun y hy => ?_, fun y c z _ => ?_, fun _ => hd, Around.frames_deeper e0.frames, .inr ⟨rfl, rfl⟩, fun b z => absurd z (noA b), e0.bs, e0.bsz, fun b _ _ => noA b,
      fun b z => absurd z (noA b), e0.funs, e0.frf⟩,
    rfl, e0.bare, Un.kept kp, ⟨_, hns, fun i y v' e1 e2 e3 => ?_⟩, fun y c e => ?_, e0.hok.fresh (Nat.le_refl _), fun y c e => ?_, fun q hq => absurd (show q ∈ ([] : List (Addr × Obj)) ++ [] from hq) (by simp), e0.hok.kept kp, ?_⟩
  · rcases wh h1 with ⟨a1, a2⟩ | ⟨a1, a2⟩ <;> rcases wh h2 with ⟨b1, b2⟩ | ⟨b1, b2⟩
    · rw [a1, b1]
    · have := old b2
      rw [a2] at this
      exact absurd this (Nat.not_lt.mpr (Nat.le_succ _))
    · have := old a2
      rw [b2] at this
      exact absurd this (Nat.not_lt.mpr (Nat.le_succ _))
    · exact C.inj y z c a2 b2
  · have hy : F.scope.names.lookup y = some .cell ∨ F.scope.names.lookup y = some .free := hy
    by_cases h : y = x
    · exact ⟨_, by rw [h]; exact lookup_own⟩
    · rcases hy with hy | hy
      · have := PySem.mem_of_lookup hy
        have m : (y, NameKind.cell) ∈ F.scope.names.filter (fun y => y.2 == .cell) := List.mem_filter.mpr ⟨this, rfl⟩
        rw [S.one, List.mem_singleton] at m
        exact absurd (congrArg Prod.fst m) h
      · obtain ⟨i, hi⟩ := List.mem_iff_getElem?.mp (S.free _ (PySem.mem_of_lookup hy) rfl)
        obtain ⟨c, hc, _⟩ := C.has i y hi
        exact ⟨c, (lookup_oth h).trans hc⟩
  · have z : false = true := z
    cases z
  · have e1 : N[i]? = some y := e1
    have clen := C.len
    unfold startF at e2
    cases i with
    | zero =>
      have hx : N[0]? = some x := by
        have := congrArg (·[0]?) S.pre
        simp only [List.getElem?_cons_zero] at this
        rwa [List.getElem?_take_of_lt (by omega)] at this
      rw [hx] at e1
      cases e1
      have e2 : some v = some v' := by simpa using e2
      cases e2
      exact ⟨u, r, .inr ⟨.inl S.par, _, lookup_own, ic⟩⟩
    | succ i =>
      have e2 : (ws ++ List.replicate (N.length - 1 - ws.length) none)[i]? = some (some v') := by simpa using e2
      by_cases h2 : i < fr.length
      · have hq : fr[i]? = some y := by
          have := congrArg (·[i + 1]?) S.pre
          simp only [List.getElem?_cons_succ] at this
          rw [List.getElem?_take_of_lt (by omega)] at this
          rw [← this]
          exact e1
        rw [List.getElem?_append_left (by omega)] at e2
        obtain ⟨c, hc, hv⟩ := C.has i y hq
        obtain ⟨u', ru, hu⟩ := hv v' e2
        have hm := List.mem_of_getElem? hq
        exact ⟨u', ru, .inr ⟨.inr (S.frk y hm), c, (lookup_oth (frx y hm)).trans hc, cellK hu⟩⟩
      · rw [List.getElem?_append_right (by omega), List.getElem?_replicate] at e2
        split at e2 <;> cases e2
  · rcases wh e with ⟨a1, a2⟩ | ⟨a1, a2⟩
    · exact ⟨_, by rw [a2]; exact ic⟩
    · obtain ⟨v0, z⟩ := (C.all y c a2).2
      exact ⟨v0, cellK z⟩
  · rcases wh e with ⟨a1, a2⟩ | ⟨a1, a2⟩
    · rw [a2]
      exact e0.hok.fresh (Nat.le_succ _)
    · exact (C.all y c a2).1
  · have clen := C.len
    unfold startF
    show _ = N.length
    rw [List.length_append, List.length_append, List.length_map, List.length_replicate]
    show 1 + (ws.length + (N.length - 1 - ws.length)) = N.length
    omega
end
/-- what is owed at the end of such a lambda: its cell stays known -/
def Keep1 (cells : List (Str × Addr)) (x : Str) (w : V) (Q : VK) : VK := fun v H => ∀ (H' : Hp) (c : Addr), (∀ y z c, cells.lookup y = some c → cells.lookup z = some c → y = z) → Same H H' → cells.lookup x = some c → H c = none → H' c = some (CellO c w) → Q v H'
section
variable {X : Cx} {pins : List (Addr × Obj)} {σ : L2.St} {H : Hp} {s : Shared}
theorem keep1 {x : Str} {i : Nat} {c : Addr} {wv : V} (I : Inv X pins σ H s) (kn : X.N[i]? = some x) (kc : X.env.scope.names.lookup x = some .cell) (hc : X.env.cells.lookup x = some c) (cab : X.s_0.heap.objs.size ≤ c) (hs : σ[i]? = some (some wv)) :
    H c = none ∧ Same H (upd H c (CellO c wv)) ∧ Un X.fs X.ex X.H_0 (upd H c (CellO c wv)) X.s_0.heap s.heap ∧ HOk X.prog X.w (upd H c (CellO c wv)) s.heap := by
  have nH : H c = none := I.freeC _ _ hc
  obtain ⟨m, hns, hl⟩ := I.loc
  obtain ⟨u, ru, look⟩ := hl i x wv kn hs (.inr (.inl kc))
  have cell : s.heap.IsCell c (some u) := by
    rcases look with ⟨z, _⟩ | ⟨_, c2, e2, z⟩
    · have z' : X.env.scope.names.lookup x = some .local := z
      rw [kc] at z'
      cases z'
    · rw [hc] at e2
      cases e2
      exact z
  have un := I.base
  refine ⟨nH, fun b o e => by rw [upd_ne (ne_of_none e nH)]; exact e, ?_, fun b o e => ?_⟩
  · exact {
      keep := un.keep
      slot := un.slot
      free := fun b o e n hx => by
        rw [upd_ne fun z => Nat.lt_irrefl _ (Nat.lt_of_lt_of_le (Heap.lt_size e) (by rw [z]; exact cab))]
        exact un.free b o e n hx
      there := un.there
      tups := fun b xs q => by
        have t := un.tups b xs q
        rw [upd_ne (ne_of_none t nH)]; exact t
      frzs := fun b o v q => by
        have t := un.frzs b o v q
        rw [upd_ne (ne_of_none t nH)]; exact t
      tbls := fun b ps q => by
        obtain ⟨more, t⟩ := un.tbls b ps q
        exact ⟨more, by rw [upd_ne (ne_of_none t nH)]; exact t⟩ }
  · by_cases hb : b = c
    · cases hb
      rw [upd_same] at e
      cases e
      exact cellO_ok ru cell
    · rw [upd_ne hb] at e
      exact (I.hok b o e).stay (fun _ _ _ q => q) (fun d q => by rw [upd_ne (ne_of_none q nH)]; exact q) fun d xs q => by rw [upd_ne (ne_of_none q nH)]; exact q
end
section
variable {P : Program} {w : World} {K : PySem.W.Frag} {mg : Str → Option Value} {base : Heap} {T : List TX}
/-- such a lambda by its body -/
theorem lokC_of {N fr : List Str} {x : Str} {k : Nat} {q : Str} {params : Arguments} {body : Expr} {scope : Scope} {inner : Option Str} {sp : List V → List V → Hp → VK → Prop} (S : CScope N x fr scope)
    (hb : ∀ (cl : List (Str × Addr)) (c : Addr) (pm ctv : Value) (u : Value), bindArgs (PySem.W.kla_fn "<lambda>" q params body scope cl pm (.ref c) ctv) ⟨[u], []⟩ = pure [(x, u)]) (len : ∀ ws vs H Q, sp ws vs H Q → vs.length = 1)
    (hbody : ∀ (f c : Addr) (cl : List (Str × Addr)) (A : Around) (outer : List Env) (s : Shared) (H : Hp) (ws : List V) (v : V) (Q : VK), Room k (A.deeper (envC ⟨"<lambda>", q, params, [], scope, cl, c⟩ x f s.heap.objs.size)) → ws.length = fr.length → InT mg T H c q inner → sp ws [v] H Q →
      ∃ t, PE (ncxC CX0 P w K mg base N ⟨"<lambda>", q, params, [], scope, cl, c⟩ x f A outer s H fun _ _ _ => False) body t ∧ t (startF N [v] (ws.map some)) H (Keep1 ((x, s.heap.objs.size + 1) :: cl) x v Q)) : LOkP P w K mg base T (k + 1) q params body scope fr inner sp := by
  constructor
  intro f c cl A outer s H ws vs us Q hr e0 hf hc C r h
  have lim : s.heap.NoLimit := e0.mod.nolimit.keeps fun b o e => (e0.bs b o e).1
  obtain ⟨⟨pm, ctv, ho⟩, _⟩ := e0.hok f _ hf
  have hl := len _ _ _ _ h
  match vs, us, r, hl with
  | [v], [u], r, _ =>
    have ru : RelV v u := by cases r with | cons a _ => exact a
    refine PySem.W.kla_callFunE hr.depth ho rfl S.co S.gen rfl (inT_rec e0.hok hc) ?_
    rw [hb cl c pm ctv u]
    refine wpAny_pure (newEnv_cell S.kind S.one S.par fun g ic hns kp => ⟨lim.keeps kp, ?_⟩)
    show codeAny _ _ (.expr body (envC ⟨"<lambda>", q, params, [], scope, cl, c⟩ x f s.heap.objs.size)) _ _
    have wl := C.len
    rw [List.length_map] at wl
    obtain ⟨t, ht, hq⟩ := hbody f c cl A outer s H ws v Q (hr.deeper _) wl hc h
    have I : Inv (ncxC CX0 P w K mg base N ⟨"<lambda>", q, params, [], scope, cl, c⟩ x f A outer s H fun _ _ _ => False) [] (startF N [v] (ws.map some)) H { s with heap := g } := inv_startC S hr.hd e0 ru C ic hns kp
    refine PySem.W.kla_codeExpr (wpAny_mono (ht.run [] _ _ H _ I hq) (fun v' s' hv => ?_) fun e s' he => he)
    obtain ⟨v', H', J, rv, hx⟩ := hv
    have hx0 : N[0]? = some x := by
      have := congrArg (·[0]?) S.pre
      simp only [List.getElem?_cons_zero] at this
      rwa [List.getElem?_take_of_lt (by omega)] at this
    obtain ⟨n0, sm, un, hok⟩ := keep1 (i := 0) (wv := v) J hx0 S.par (lookup_own : ((x, s.heap.objs.size + 1) :: cl).lookup x = some (s.heap.objs.size + 1)) (Nat.le_succ _) (by simp [startF])
    exact ⟨v', _, J.os, J.bare, un, hok, rv, hx _ _ (fun y z c h1 h2 => J.ok.inj y z c h1 h2) sm lookup_own n0 upd_same⟩
end
/-! ### a lambda that stands at f -/
/-- f holds a lambda; its cells hold ws, and are newer than H0 -/
def LamN (mg : Str → Option Value) (T : List TX) (q : Str) (params : Arguments) (body : Expr) (scope : Scope) (fr : List Str) (inner : Option Str) (ws : List V) (f : Addr) (H0 H : Hp) : Prop :=
  ∃ (c : Addr) (cl : List (Str × Addr)), H f = some (LamO f ⟨q, params, body, scope, cl, c⟩) ∧ InT mg T H c q inner ∧ HeldC cl fr ws H ∧ ∀ y a, cl.lookup y = some a → H0 a = none
section
variable {mg : Str → Option Value} {T : List TX} {q : Str} {params : Arguments} {body : Expr} {scope : Scope} {fr : List Str} {inner : Option Str} {ws : List V} {f : Addr} {H0 H H' : Hp} {W : Addr → Prop}
theorem LamN.ew (L : LamN mg T q params body scope fr inner ws f H0 H) (e : Ew mg T W H H') (hi : inner = none ∨ ∃ p ∈ T, p.2.2 = inner) : LamN mg T q params body scope fr inner ws f H0 H' := by
  obtain ⟨c, cl, h1, h2, C, n⟩ := L
  exact ⟨c, cl, e.ex _ _ h1 (fun _ z => nomatch z) (fun _ _ z => nomatch z), e.it _ _ _ hi h2, ⟨C.len, fun i y z => by
    obtain ⟨c, w, a1, a2, a3⟩ := C.has i y z
    exact ⟨c, w, a1, a2, e.ex _ _ a3 (fun _ z => nomatch z) (fun _ _ z => nomatch z)⟩, C.all, C.inj⟩, n⟩
theorem lamO_fn {F : LF} (e : H f = some (LamO f F)) : FnC f H := fun P w s hok => by
  obtain ⟨⟨pm, ctv, ho⟩, _⟩ := hok f _ e
  exact ⟨_, _, _, _, ho⟩
theorem LamN.fn (L : LamN mg T q params body scope fr inner ws f H0 H) : FnC f H := by
  obtain ⟨c, cl, h1, _⟩ := L
  exact lamO_fn h1
/-- no cell has another kind of object -/
theorem offK {P : Program} {w : World} {h : Heap} {cl : List (Str × Addr)} {b : Addr} (C : HeldC cl fr ws H) (hok : HOk P w H h) (n : ∀ v, ¬ h.IsCell b v) : isC cl fr b = false := by
  cases e : isC cl fr b with
  | false => rfl
  | true =>
    obtain ⟨v, z⟩ := C.at e
    obtain ⟨u, _, z2⟩ := cellO_at hok z
    exact absurd z2 (n _)
theorem code_nocell {h : Heap} {c : Addr} {q : Str} (r : h.CodeRec (.ref c) q) (v : Option Value) : ¬ h.IsCell c v := fun ⟨o, ho, hd⟩ => by
  obtain ⟨c', oc, vs, t, e, e1, e2, _⟩ := r
  cases e
  rw [ho] at e1
  cases e1
  rw [hd] at e2
  cases e2
theorem fn_nocell {h : Heap} (r : PySem.W.FnAt f h) (v : Option Value) : ¬ h.IsCell f v := fun ⟨o, ho, hd⟩ => by
  obtain ⟨fd, od, oc, sl, e⟩ := r
  rw [ho] at e
  cases e
  cases hd
section
variable {P : Program} {w : World} {K : PySem.W.Frag} {base : Heap} {k : Nat} {ps : List Str} {sp : List V → List V → Hp → VK → Prop} {vs : List V} {Q : VK}
/-- such a lambda is called: its body runs where its cells are not told -/
theorem LamN.run (L : LamN mg T q params body scope fr inner ws f H0 H) (ok : LOkP P w K mg base T k q params body scope fr inner sp) (hT : TabsX mg T H) (e : Ew mg T W H0 H) (hi : inner = none ∨ ∃ p ∈ T, p.2.2 = inner)
    (kk : ∀ (Hd : Hp) (Q' : VK), Ew mg T W H0 Hd → TabsX mg T Hd → (∀ b o, Hd b = some o → H b = some o) → (∀ b o, H b = some o → (∀ φ, o ≠ .ext φ) → Hd b = some o) → (∀ v H1, (∀ H2, Same H1 H2 → (Ew mg T No Hd H1 → Ew mg T No H H2) → Q v H2) → Q' v H1) → sp ws vs Hd Q') : RunOk P w K mg base k f vs H Q := by
  refine ⟨L.fn, fun A outer s us hr e0 r => ?_⟩
  obtain ⟨c, cl, h1, h2, C, n⟩ := L
  have hok := e0.hok
  have offI : ∀ c q i, InT mg T H c q i → isC cl fr c = false := fun c q i h => offK C hok (code_nocell (inT_rec hok h))
  have keep : ∀ b o, H b = some o → (∀ φ, o ≠ .ext φ) → dropC cl fr H b = some o := fun b o e n => (drop_off (C.off e n)).trans e
  have dropS : ∀ P q, TabS H P q → TabS (dropC cl fr H) P q := fun P q ⟨ps, e1, ok, kn⟩ => ⟨ps, keep _ _ e1 (fun _ z => nomatch z), ok, fun pos cv hc => by
    obtain ⟨c, rfl, e⟩ := kn pos cv hc
    exact ⟨c, rfl, (drop_off (offK C hok (code_nocell (codeO_at hok e)))).trans e⟩⟩
  have dropI : ∀ c q i, InT mg T H c q i → InT mg T (dropC cl fr H) c q i := fun c q i h => by
    have z := offI c q i h
    cases i with
    | none => exact (drop_off z).trans h
    | some q' =>
      obtain ⟨P0, a1, a2, a3⟩ := h
      exact ⟨P0, (drop_off z).trans a1, a2, dropS _ _ a3⟩
  have dropT : TabsX mg T H → TabsX mg T (dropC cl fr H) := fun t p hp => by
    obtain ⟨ps, e1, ok, kn⟩ := t p hp
    refine ⟨ps, keep _ _ e1 (fun _ z => nomatch z), ok, fun pos cv hc => ?_⟩
    obtain ⟨c, e2, e3⟩ := kn pos cv hc
    exact ⟨c, e2, dropI _ _ _ e3⟩
  have new : ∀ b, isC cl fr b = true → H0 b = none := fun b hb => by
    obtain ⟨y, _, e⟩ := isC_iff.mp hb
    exact n y b e
  have ed : Ew mg T W H0 (dropC cl fr H) := ⟨fun b o hb n1 n2 => by
    cases z : isC cl fr b with
    | true => rw [new b z] at hb; cases hb
    | false => exact (drop_off z).trans (e.ex b o hb n1 n2), fun b hb => by
    cases z : isC cl fr b with
    | true => exact new b z
    | false =>
      rw [drop_off z] at hb
      exact e.dm b hb, fun t => dropT (e.tb t), fun c q i hi h => dropI _ _ _ (e.it c q i hi h)⟩
  have e1 : Env0 P w K mg base A outer s (dropC cl fr H) := ⟨e0.frames, e0.mod, fun b o e => ⟨(e0.bs b o e).1, by rw [drop_off (C.offN (e0.bs b o e).2)]; exact (e0.bs b o e).2⟩, e0.bsz, e0.funs, fun b hb => by rw [drop_off (C.offN (e0.frf b hb))]; exact e0.frf b hb, hok_drop C e0.hok, e0.bare⟩
  have nf : isC cl fr f = false := offK C hok (fn_nocell (lamO_fn h1 _ _ _ hok))
  refine codeAny_mono (ok.run f c cl A outer s (dropC cl fr H) ws vs us (fun v H1 => (∀ b, isC cl fr b = true → H1 b = none) → Q v (backC cl fr H H1)) hr e1 ((drop_off nf).trans h1) (dropI _ _ _ h2) (cells_held C hok) r
    (kk _ _ ed (dropT hT) (fun b o e => (drop_some e).2) keep fun v H1 hv gone => hv _ (fun b o e => ?_) fun ex => ⟨fun b o eb n1 n2 => ?_, fun b hb => ?_, fun _ => ?_, fun c q i hi h => ?_⟩)) fun r s2 hq => ?_
  · cases hb : isC cl fr b with
    | true => rw [gone b hb] at e; cases e
    | false => exact (back_off hb).trans e
  · cases hb : isC cl fr b with
    | true => exact (back_on hb).trans eb
    | false => exact (back_off hb).trans (ex.ex b o ((drop_off hb).trans eb) n1 fun z => z.elim)
  · cases z : isC cl fr b with
    | true =>
      rw [back_on z] at hb
      exact hb
    | false =>
      rw [back_off z] at hb
      have := ex.dm b hb
      rwa [drop_off z] at this
  · have sm : ∀ b o, H1 b = some o → backC cl fr H H1 b = some o := fun b o e => by
      cases hb : isC cl fr b with
      | true => rw [gone b hb] at e; cases e
      | false => exact (back_off hb).trans e
    exact (ex.tb (dropT hT)).ext sm
  · have sm : ∀ b o, H1 b = some o → backC cl fr H H1 b = some o := fun b o e => by
      cases hb : isC cl fr b with
      | true => rw [gone b hb] at e; cases e
      | false => exact (back_off hb).trans e
    exact (ex.it c q i hi (dropI _ _ _ h)).ext sm
  · cases r with
    | error e => exact hq
    | ok fl =>
      cases fl with
      | next => exact hq
      | brk => exact hq
      | cont => exact hq
      | ret u =>
        obtain ⟨v, H2, os, bare, un, hok2, rv, hv⟩ := hq
        have gone : ∀ b, isC cl fr b = true → H2 b = none := fun b hb => by
          obtain ⟨y, z⟩ := C.at hb
          obtain ⟨_, ⟨o, ho⟩, _⟩ := hok b _ z
          exact un.free b o ho (by unfold dropC; rw [hb]; rfl) (by simp)
        refine ⟨v, backC cl fr H H2, os, bare, ?_, fun b o e => ?_, rv, hv gone⟩
        · exact {
            keep := fun b o e n => un.keep b o e (by rw [drop_off (C.offN n)]; exact n)
            slot := fun b o e n => un.slot b o e (by rw [drop_off (C.offN n)]; exact n)
            free := fun b o e n hx => by
              rw [back_off (C.offN n)]
              exact un.free b o e (by rw [drop_off (C.offN n)]; exact n) hx
            there := un.there
            tups := fun b xs e => by
              have z := C.off e fun _ z => nomatch z
              rw [back_off z]
              exact un.tups b xs (by rw [drop_off z]; exact e)
            frzs := fun b o u e => by
              have z := C.off e fun _ z => nomatch z
              rw [back_off z]
              exact un.frzs b o u (by rw [drop_off z]; exact e)
            tbls := fun b ps e => by
              have z := C.off e fun _ z => nomatch z
              obtain ⟨more, t⟩ := un.tbls b ps (by rw [drop_off z]; exact e)
              exact ⟨more, by rw [back_off z]; exact t⟩ }
        · cases hb : isC cl fr b with
          | true =>
            rw [back_on hb] at e
            obtain ⟨v', hv'⟩ := C.at hb
            rw [hv'] at e
            cases e
            obtain ⟨u', r', o, ho, hdt⟩ := cellO_at hok hv'
            refine cellO_ok r' ⟨o, un.keep b o ho (by unfold dropC; rw [hb]; rfl) (fun z => ?_) (by simp), hdt⟩
            have z2 := e0.frf b z
            rw [hv'] at z2
            cases z2
          | false =>
            rw [back_off hb] at e
            have live : ∀ d u, H2 d = some u → backC cl fr H H2 d = some u := fun d u q => by
              cases hd : isC cl fr d with
              | true => rw [gone d hd] at q; cases q
              | false => rw [back_off hd]; exact q
            exact (hok2 b o e).stay (fun _ _ _ q => q) (fun d q => live d _ q) fun d xs q => live d _ q
end
end
/-! ### where a lambda stands in an expression -/
def xArg (i : Nat) : Expr → Expr
  | .Call _ as _ _ => as.getD i (.Name "x" ⟨0, 0, 0, 0⟩)
  | e => e
def xElt (i : Nat) : Expr → Expr
  | .Tuple es _ _ => es.getD i (.Name "x" ⟨0, 0, 0, 0⟩)
  | .List es _ => es.getD i (.Name "x" ⟨0, 0, 0, 0⟩)
  | e => e
/-! ### comprehensions where lambdas are made and run -/
/-- one more list that may change -/
def Or1 (W : Addr → Prop) (D : Addr) : Addr → Prop := fun b => W b ∨ b = D
theorem lc_ew {α : Type} {mg : Str → Option Value} {T : List TX} {W : Addr → Prop} (F : (Addr → Prop) → Hp → V → α → Prop) (st : ∀ W' H H' v a, (∀ b, W' b → ∃ xs, H' b = some (.lst xs)) → Ew mg T W' H H' → F W' H v a → F W' H' v a)
    {σ : L2.St} {H : Hp} {g : TG} {tt : TT} {te : TE} {J : It} {n : Nat} {G : Hp → Prop} {Y : Nat → Hp → V → Hp → Prop} (hW : ∀ b, W b → ∃ xs, H b = some (.lst xs)) (w : L2.Walk J n G Y) {vs : List Nat} {Qd : Addr → Hp → Prop} (l : List α) (hl : l.length = n) (hn : n ≤ 1000000) (hG : ∀ H', Ew mg T No H H' → G H')
    (hs : ∀ D i x H2 H' (R : V → Hp → Prop) (R' : Hp → Prop), H D = none → i < n → Ew mg T No H H2 → (∀ b, Or1 W D b → ∃ xs, H2 b = some (.lst xs)) → Y i H2 x H' → (∀ v p H4, l[i]? = some p → Ew mg T No H2 H4 → F (Or1 W D) H4 v p → R v H4) →
      g x (wipe σ vs) H' fun σ2 H2 => wipe σ2 vs = wipe σ vs ∧ tt σ2 H2 fun b H3 => if b = true then te σ2 H3 R else R' H3)
    (q : ∀ p H' vs, H p = none → Ew mg T No H H' → H' p = some (.lst vs) → (∀ b, Or1 W p b → ∃ xs, H' b = some (.lst xs)) → Paired (F (Or1 W p) H') vs l → Qd p H') :
    ∀ D, H D = none → ∃ W : Nat → Nat → Hp → Prop, (∃ m, W 0 m (upd H D (.lst []))) ∧ ∀ i m H, W i m H →
      (J.stop i H ∧ Qd D H) ∨ (J.go i H ∧ ∃ Nx : Hp → Prop, (∀ H', Nx H' → ∃ m', m' < m ∧ W (i + 1) m' H') ∧ ∀ x H', J.yld i H x H' → g x (wipe σ vs) H' fun σ2 H2 => wipe σ2 vs = wipe σ vs ∧ tt σ2 H2 fun b H3 =>
        if b = true then te σ2 H3 fun y H4 => ∃ acc, H4 D = some (.lst acc) ∧ acc.length < sizeLine ∧ Nx (upd H4 D (.lst (acc ++ [y]))) else Nx H3) := by
  intro D hD
  have wk : ∀ {H2 : Hp} {us : List V}, Ew mg T No H H2 → H2 D = some (.lst us) → ∀ b, Or1 W D b → ∃ xs, H2 b = some (.lst xs) := fun e h b hb => by
    rcases hb with hb | rfl
    · obtain ⟨xs, hx⟩ := hW b hb
      exact ⟨xs, e.lst0 hx⟩
    · exact ⟨_, h⟩
  refine lc_it w (fun i H2 => Ew mg T No H H2 ∧ ∃ us, H2 D = some (.lst us) ∧ Paired (F (Or1 W D) H2) us (l.take i)) ⟨.same (same_new hD), [], upd_same, .nil⟩ (fun i H2 _ p => hG H2 p.1) ?_ (fun H2 ⟨p1, us, p2, p3⟩ => q D H2 us hD p1 p2 (wk p1 p2) (by rwa [List.take_of_length_le (by omega)] at p3))
  rintro i x H2 H' hi ⟨p1, us, p2, p3⟩ y
  refine hs D i x H2 H' _ _ hD hi p1 (wk p1 p2) y (fun v p H4 e s et => ?_)
  have e4 := s.lst0 p2
  have ln := Paired.length p3
  rw [List.length_take] at ln
  have mu : Ew mg T (Or1 W D) H4 (upd H4 D (.lst (us ++ [v]))) := Ew.refl.mut (.inl (.inr rfl)) e4
  have p4 := p1.trans s
  have p5 := p4.mut (o := .lst (us ++ [v])) (.inr hD) e4
  refine ⟨us, e4, sz_lt (by omega), p5, _, upd_same, ?_⟩
  rw [List.take_succ, e]
  exact paired_app (paired_imp2 (fun v p h => st _ _ _ _ _ (wk p5 upd_same) mu (st _ _ _ _ _ (wk p4 e4) s.no h)) p3) (.cons (st _ _ _ _ _ (wk p5 upd_same) mu et) .nil)
/-! ### a maker's text, told up to its end: its cells stay known, or are lent to a last call -/
abbrev TSF := VK → L2.St → Hp → Prop
structure PSF (X : Cx) (sts : List Stmt) (t : TSF) : Prop where
  run : ∀ (pins : List (Addr × Obj)) (s : Shared) (σ : L2.St) (H : Hp) (Q : VK), Inv X pins σ H s → t Q σ H →
    wpAny (model X.prog X.w) X.A (execs sts X.env) (fun fl s' => match fl with
      | .ret u => ∃ v H', s'.os = X.s_0.os ∧ AllBare s'.gens ∧ Un X.fs X.ex X.H_0 H' X.s_0.heap s'.heap ∧ HOk X.prog X.w H' s'.heap ∧ RelV v u ∧ Q v H'
      | _ => False) X.xe s
section
variable {X : Cx}
theorem psf_cons {st : Stmt} {rest : List Stmt} {t : TS} {u : TSF} (h1 : PS X st t) (h2 : PSF X rest u) : PSF X (st :: rest) (fun Q σ H => t (onlyN fun σ1 H1 => u Q σ1 H1) σ H) := by
  constructor
  intro pins s σ H Q I h
  refine wpAny_execs_cons (thn (h1.run pins s σ H _ I h) fun fl s1 q => ?_)
  cases fl with
  | next =>
    obtain ⟨σ1, H1, J, q⟩ := q
    exact h2.run pins s1 σ1 H1 Q J q
  | ret v => obtain ⟨_, _, _, _, _, q⟩ := q; exact q.elim
  | brk => obtain ⟨_, _, _, q⟩ := q; exact q.elim
  | cont => obtain ⟨_, _, _, q⟩ := q; exact q.elim
theorem psf_if {c : Expr} {a rest : List Stmt} {pos : Pos} {tc : TT} {t u : TSF} (hc : PT X c tc) (ha : PSF X a t) (hb : PSF X rest u) : PSF X (.If c a [] pos :: rest) (fun Q σ H => tc σ H fun b H1 => if b = true then t Q σ H1 else u Q σ H1) := by
  constructor
  intro pins s σ H Q I h
  refine wpAny_execs_cons (wpAny_If (thn (hc.run pins s σ H _ I h) fun b s1 ⟨H1, J, q⟩ => ?_))
  cases b with
  | true =>
    refine thn (ha.run pins s1 σ H1 Q J q) fun fl s2 q => ?_
    cases fl with
    | ret v => exact q
    | next => exact q.elim
    | brk => exact q.elim
    | cont => exact q.elim
  | false => exact wpAny_execs_nil (hb.run pins s1 σ H1 Q J q)
/-- return e: the cells as stay known -/
theorem psf_ret {e : Expr} {te : TE} {pos : Pos} (as : List (Str × Nat)) (hk : ∀ a ∈ as, X.env.scope.names.lookup a.1 = some .cell ∧ X.N[a.2]? = some a.1) (cab : ∀ x c, X.env.cells.lookup x = some c → X.s_0.heap.objs.size ≤ c) (he : PE X e te) :
    PSF X [.Return (some e) pos] (fun Q σ H => te σ H fun x H1 => Keeps X.env.cells as Q x σ H1) := by
  constructor
  intro pins s σ H Q I h
  refine wpAny_execs_cons (wpAny_Return_some (thn (he.run pins s σ H _ I h) fun v s1 ⟨x, H1, J, r, as1, ws, sub, nd, hw, q⟩ => ?_))
  obtain ⟨H2, sm, _, at_, un, hok⟩ := keep_cells J cab as1 ws (fun a ha => hk a (sub a ha)) nd hw
  exact ⟨x, H2, J.os, J.bare, un, hok, r, q H2 (fun x y c e1 e2 => J.ok.inj x y c e1 e2) sm at_⟩
theorem un_trans {fs fs' ex : List Addr} {H0 H1 H2 : Hp} {h0 h1 h2 : Heap} (a : Un fs ex H0 H1 h0 h1) (b : Un fs' [] H1 H2 h1 h2) (hfs : ∀ x ∈ fs', x ∈ fs ∨ h0.get? x = none) : Un fs ex H0 H2 h0 h2 where
  keep := fun x o e n f nx => b.keep x o (a.keep x o e n f nx) (a.free x o e n nx) (fun z => (hfs x z).elim f fun w => by rw [w] at e; cases e) (by simp)
  slot := fun x o e n f nx => by
    obtain ⟨sl, e1⟩ := a.slot x o e n f nx
    obtain ⟨sl2, e2⟩ := b.any e1 (a.free x o e n nx) (by simp)
    exact ⟨sl2, e2⟩
  free := fun x o e n nx => by
    obtain ⟨o1, e1⟩ := a.there x o e nx
    exact b.free x o1 e1 (a.free x o e n nx) (by simp)
  there := fun x o e nx => by
    obtain ⟨o1, e1⟩ := a.there x o e nx
    exact b.there x o1 e1 (by simp)
  tups := fun x xs e => b.tups x xs (a.tups x xs e)
  frzs := fun x o u e => b.frzs x o u (a.frzs x o u e)
  tbls := fun x ps e => by
    obtain ⟨m1, e1⟩ := a.tbls x ps e
    obtain ⟨m2, e2⟩ := b.tbls x _ e1
    exact ⟨m1 ++ m2, by rw [e2, Array.append_assoc]⟩
/-- return f(..): the cells as1 are lent to the call -/
def tLend (cells : List (Str × Addr)) (as : List (Str × Nat)) (sp : Sp) (t : TA) : TSF := fun Q σ H => t σ H fun vs H1 => ∃ (as1 : List (Str × Nat)) (ws : List V), (∀ a ∈ as1, a ∈ as) ∧ (as1.map (·.1)).Nodup ∧ as1.map (fun a => slotAt σ a.2) = ws.map some ∧
  ∀ H', (∀ x y c, cells.lookup x = some c → cells.lookup y = some c → x = y) → Same H1 H' → (∀ (i : Nat) a w, as1[i]? = some a → ws[i]? = some w → ∃ c, cells.lookup a.1 = some c ∧ H1 c = none ∧ H' c = some (CellO c w)) → sp vs H' Q E0
theorem psf_lend {j k : Nat} {x : Str} {sp : Sp} {p pos pos2 : Pos} {e : Expr} {es : List Expr} {t : TA} (as : List (Str × Nat)) (hk : ∀ a ∈ as, X.env.scope.names.lookup a.1 = some .cell ∧ X.N[a.2]? = some a.1) (cab : ∀ x c, X.env.cells.lookup x = some c → X.s_0.heap.objs.size ≤ c) (hst : X.stack = X.env :: X.outer) (hfr : X.env.frame = some X.env.locals)
    (c : Cal X.prog X.w X.K X.mg X.base k x sp) (hr : Room j X.A) (hkj : k ≤ j) (hg : Gl X x) (ha : PA X (e :: es) t)
    (hdb : (x == ("__debug__" : Str)) = false := by decide) (he : starEach (e :: es) X.env = (false, eval e X.env) :: starEach es X.env := by rfl) (hpl : (backTo pos (starEach es X.env)).any (·.1) = false := by rfl) :
    PSF X [.Return (some (.Call (.Name x p) (e :: es) [] pos)) pos2] (tLend X.env.cells as sp t) := by
  constructor
  intro pins s σ H Q I h
  obtain ⟨f, fd, ps, F, hm, kp, hb⟩ := c.ex
  refine wpAny_execs_cons (wpAny_Return_some (wpAny_Call_Name_kw (ld_glob I hg hm ?_ hdb)))
  refine PySem.W.callWith_K (h₀ := X.base) I.ok.mod.kin kp (thn (ha.run pos pins s σ H _ I h) fun us s1 ⟨vs, H1, I1, r, as1, ws, sub, nd, hw, q⟩ => ⟨I1.kIn, ?_⟩) he hpl
  obtain ⟨H2, sm, off, at_, un, hok⟩ := keep_cells I1 cab as1 ws (fun a ha => hk a (sub a ha)) nd hw
  have e0 := I1.env0
  have hq := q H2 (fun x y c e1 e2 => I1.ok.inj x y c e1 e2) sm at_
  have fresh : ∀ b, H1 b = none → (∀ a ∈ as1, X.env.cells.lookup a.1 ≠ some b) → H2 b = none := fun b h n => by rw [off b n]; exact h
  have e1 : Env0 X.prog X.w X.K X.mg X.base X.A X.stack s1 H2 := by
    refine ⟨e0.frames, e0.mod, fun b o e => ⟨(e0.bs b o e).1, fresh b (e0.bs b o e).2 fun a _ z => ?_⟩, e0.bsz, e0.funs, fun b hb => fresh b (e0.frf b hb) fun a _ z => ?_, hok, e0.bare⟩
    · exact Nat.lt_irrefl _ (Nat.lt_of_lt_of_le (Heap.lt_size (I1.ok.bs b o e).1) (cab _ _ z))
    · obtain ⟨v, ob, ho, hd⟩ := I1.cell _ _ z
      rw [hst] at hb
      have hb' : b ∈ (X.env :: X.outer).filterMap (·.frame) := hb
      rw [List.filterMap_cons, hfr] at hb'
      rcases List.mem_cons.mp hb' with e | hb'
      · obtain ⟨m, ⟨ob2, es, ep, ho2, hd2, _⟩, _⟩ := I1.loc
        rw [← e, ho] at ho2
        cases ho2
        rw [hd] at hd2
        cases hd2
      · obtain ⟨_, o2, h2, _⟩ := I1.ok.funs.mem hb'
        exact Nat.lt_irrefl _ (Nat.lt_of_lt_of_le (Heap.lt_size h2) (cab _ _ z))
  have hl : us.length = ps.length := by rw [← r.length]; exact F.len _ _ _ _ hq
  refine wpAny_call (codeAny_mono (F.run X.A X.stack s1 H2 ⟨us, []⟩ us vs Q E0 (hr.mono hkj) e1 (by have := hb s1 us I1.kIn (by simpa using hl); simpa using this) r hq) fun r s2 hq => ?_)
  cases r with
  | error e => exact hq.elim
  | ok fl =>
    cases fl with
    | next => exact hq.elim
    | brk => exact hq.elim
    | cont => exact hq.elim
    | ret u =>
      obtain ⟨v, H3, os, bare, un3, hok3, rv, hv⟩ := hq
      refine ⟨v, H3, os.trans I1.os, bare, un_trans un un3 fun b hb => ?_, hok3, rv, hv⟩
      rw [hst] at hb
      have hb' : b ∈ (X.env :: X.outer).filterMap (·.frame) := hb
      rw [List.filterMap_cons, hfr] at hb'
      rcases List.mem_cons.mp hb' with e | hb'
      · right
        cases z : X.s_0.heap.get? b with
        | none => rfl
        | some o => exact absurd (Nat.lt_of_lt_of_le (Heap.lt_size z) (by rw [e]; exact I1.ok.above)) (Nat.lt_irrefl _)
      · exact .inl hb'
end
section
variable {P : Program} {w : World} {K : PySem.W.Frag} {mg : Str → Option Value} {base : Heap}
/-- a maker by its text: what a function object at f is worth -/
theorem maker_run {x : Str} {qual : Str} {st : Stmt} {N ps : List Str} {k : Nat} {sp : Sp} {f : Addr} {oc kV doc pm ct cdv : Value} {od an : Option Addr} {osl : Array (Option Value)}
    (lk : K.lookup f = some ⟨oc, od, .func (PySem.W.fnOf x qual (defArgs st) (defBody st) (defScope st) .none kV doc pm an cdv ct), osl⟩) (hcd : PySem.W.codeIn K cdv qual = true) (S : FnScope N ps (defScope st)) (len : ∀ vs H Q E, sp vs H Q E → vs.length = ps.length)
    (hbody : ∀ (A : Around) (outer : List Env) (s : Shared) (H : Hp) (vs : List V) (Q : VK) (E : XK), Room k (A.deeper (envOfC qual (defScope st) s.heap.objs.size f cdv)) → sp vs H Q E →
      ∃ t, PSF (cxOf CX0 P w K mg base N qual (defScope st) f cdv A outer s H E) (defBody st) t ∧ t Q (start N vs) H) : FnOk P w K mg base CX0 (k + 1) f (PySem.W.fnOf x qual (defArgs st) (defBody st) (defScope st) .none kV doc pm an cdv ct) ps sp := by
  refine ⟨len, fun A outer s H args us vs Q E hr e0 hb r hsp => ?_⟩
  have inK : K.In s.heap := e0.mod.kin.keeps fun b o e => (e0.bs b o e).1
  have free : s.heap.NoLimit := e0.mod.nolimit.keeps fun b o e => (e0.bs b o e).1
  have kinds : ∀ y ∈ ps.zip us, (defScope st).names.lookup y.1 = some .local ∨ ((defScope st).names.lookup y.1 = some .cell ∧ ((cellsFrom (s.heap.objs.size + 1) (defScope st).names []).lookup y.1).isSome = true) := fun y hy => by
    obtain ⟨n, v⟩ := y
    exact (S.par n (List.of_mem_zip hy).1).imp id fun z => ⟨z, PySem.W.cellsFrom_some _ _ _ (.inl z)⟩
  refine codeAny_call_function hr.depth (inK _ _ lk) rfl S.co S.gen rfl (PySem.W.codeRec_of inK hcd) (hb _ _ _ _ ?_)
  refine wpAny_newFunctionEnv_cells S.kind kinds fun env he s1 y => ?_
  subst he
  refine ⟨free.keeps y.toInCall.keep, codeAny_func ?_⟩
  obtain ⟨t, ht, hq⟩ := hbody A outer s H vs Q E (hr.deeper _) hsp
  have I : Inv (cxOf CX0 P w K mg base N qual (defScope st) f cdv A outer s H E) [] (start N vs) H s1 := inv_start S hr.hd e0 (len _ _ _ _ hsp) r y
  refine wpAny_mono (ht.run [] s1 (start N vs) H _ I hq) (fun fl s2 hs => ?_) fun e s2 hs => hs
  cases fl with
  | ret u => exact hs
  | next => exact hs.elim
  | brk => exact hs.elim
  | cont => exact hs.elim
theorem DefC.calT {x : Str} {st : Stmt} {N ps : List Str} {k : Nat} {sp : Sp} (d : DefC K mg x st ps) (S : FnScope N ps (defScope st)) (len : ∀ vs H Q E, sp vs H Q E → vs.length = ps.length)
    (hbody : ∀ (f : Addr) (A : Around) (outer : List Env) (s : Shared) (H : Hp) (vs : List V) (Q : VK) (E : XK), Room k (A.deeper (envOfC x (defScope st) s.heap.objs.size f (.ref (cF K mg x)))) → sp vs H Q E →
      ∃ t, PSF (cxOf CX0 P w K mg base N x (defScope st) f (.ref (cF K mg x)) A outer s H E) (defBody st) t ∧ t Q (start N vs) H) : Cal P w K mg base (k + 1) x sp := by
  obtain ⟨f, oc, od, kV, doc, pm, an, ct, osl, lk, hcd, kp, hm, b⟩ := d.ex
  exact ⟨f, _, ps, maker_run lk hcd S len (hbody f), hm, kp, b⟩
/-- the code object of a method, its table -/
def cM (K : PySem.W.Frag) (C : Addr) (m : Str) : Addr := match PySem.W.findIn K (.ref C) m with
  | some (some (.ref f)) => match K.lookup f with
    | some ⟨_, _, .func fd, _⟩ => match fd.code with
      | .ref c => c
      | _ => 0
    | _ => 0
  | _ => 0
abbrev pM (K : PySem.W.Frag) (C : Addr) (m : Str) : Addr := pK K (cM K C m)
/-- a method that makes lambdas -/
structure MethC (K : PySem.W.Frag) (C : Addr) (m qual : Str) (st : Stmt) (ps : List Str) : Prop where
  ex : ∃ (f : Addr) (oc : Value) (od : Option Addr) (kV doc pm : Value) (an : Option Addr) (ct : Value) (osl : Array (Option Value)),
    K.lookup f = some ⟨oc, od, .func (PySem.W.fnOf m qual (defArgs st) (defBody st) (defScope st) .none kV doc pm an (.ref (cM K C m)) ct), osl⟩ ∧ PySem.W.codeIn K (.ref (cM K C m)) qual = true ∧ Meth K C m f ∧ Binds K (PySem.W.fnOf m qual (defArgs st) (defBody st) (defScope st) .none kV doc pm an (.ref (cM K C m)) ct) ps []
theorem MethC.metT {C : Addr} {m qual : Str} {st : Stmt} {N ps : List Str} {k : Nat} {sp : Sp} (cl : Cls K C) (d : MethC K C m qual st ps) (S : FnScope N ps (defScope st)) (len : ∀ vs H Q E, sp vs H Q E → vs.length = ps.length)
    (hbody : ∀ (f : Addr) (A : Around) (outer : List Env) (s : Shared) (H : Hp) (vs : List V) (Q : VK) (E : XK), Room k (A.deeper (envOfC qual (defScope st) s.heap.objs.size f (.ref (cM K C m)))) → sp vs H Q E →
      ∃ t, PSF (cxOf CX0 P w K mg base N qual (defScope st) f (.ref (cM K C m)) A outer s H E) (defBody st) t ∧ t Q (start N vs) H) : Met P w K mg base (k + 1) C m sp := by
  obtain ⟨f, oc, od, kV, doc, pm, an, ct, osl, lk, hcd, hm, b⟩ := d.ex
  exact ⟨f, _, ps, cl, hm, maker_run lk hcd S len (hbody f), b⟩
end
/-- at a maker's end: the lambda's cells are known, and new -/
theorem held_new {cells : List (Str × Addr)} {names : List (Str × NameKind)} {fr : List Str} {ws : List V} {H0 H : Hp} (inj : ∀ x y c, cells.lookup x = some c → cells.lookup y = some c → x = y) (hfr : ∀ y, y ∈ fr ↔ (y, NameKind.free) ∈ names) (len : ws.length = fr.length)
    (hat : ∀ (i : Nat) y w, fr[i]? = some y → ws[i]? = some w → ∃ c, cells.lookup y = some c ∧ H0 c = none ∧ H c = some (CellO c w)) : HeldC (cloFrom cells names []) fr ws H ∧ ∀ y a, (cloFrom cells names []).lookup y = some a → H0 a = none := by
  have hC := heldC_of (H := H) inj hfr len fun i y w h1 h2 => by
    obtain ⟨c, a, _, b⟩ := hat i y w h1 h2
    exact ⟨c, a, b⟩
  refine ⟨hC, fun y a e => ?_⟩
  obtain ⟨i, hi⟩ := List.mem_iff_getElem?.mp (hC.all y a e)
  have lt : i < ws.length := by
    rw [len]
    exact (List.getElem?_eq_some_iff.mp hi).1
  obtain ⟨c, h1, h2, h3⟩ := hat i y _ hi (List.getElem?_eq_getElem lt)
  rcases cloFrom_mem (PySem.mem_of_lookup e) with hm | ⟨_, h4⟩
  · cases hm
  · rw [h1] at h4
    have h4 : a = c := h4
    rw [h4]
    exact h2
theorem cells_ge (lo : Nat) : ∀ (names : List (Str × NameKind)) (n : Nat) (acc : List (Str × Addr)), lo ≤ n → (∀ y ∈ acc, lo ≤ y.2) → ∀ y ∈ cellsFrom n names acc, lo ≤ y.2
  | [], _, _, _, h => h
  | (y, kd) :: r, n, acc, hn, h => by
    unfold cellsFrom
    split
    · exact cells_ge lo r (n + 1) _ (Nat.le_succ_of_le hn) fun z hz => by
        rcases List.mem_cons.mp hz with e | hz
        · rw [e]; exact hn
        · exact h z hz
    · exact cells_ge lo r n acc hn h
theorem cab_ok {n : Nat} {names : List (Str × NameKind)} {x : Str} {c : Addr} (h : (cellsFrom (n + 1) names []).lookup x = some c) : n ≤ c := cells_ge n names (n + 1) [] (Nat.le_succ n) (fun _ z => nomatch z) _ (PySem.mem_of_lookup h)
/-! ### a lambda with a cell of its own: its body, up to its end -/
structure PEF (X : Cx) (e : Expr) (t : TSF) : Prop where
  run : ∀ (pins : List (Addr × Obj)) (s : Shared) (σ : L2.St) (H : Hp) (Q : VK), Inv X pins σ H s → t Q σ H →
    wpAny (model X.prog X.w) X.A (eval e X.env) (fun u s' => ∃ v H', s'.os = X.s_0.os ∧ AllBare s'.gens ∧ Un X.fs X.ex X.H_0 H' X.s_0.heap s'.heap ∧ HOk X.prog X.w H' s'.heap ∧ RelV v u ∧ Q v H') X.xe s
section
variable {X : Cx}
/-- its cell stays known -/
theorem pef_keep {e : Expr} {te : TE} {x : Str} {i : Nat} (kn : X.N[i]? = some x) (kc : X.env.scope.names.lookup x = some .cell) (cab : ∀ c, X.env.cells.lookup x = some c → X.s_0.heap.objs.size ≤ c) (he : PE X e te) :
    PEF X e (fun Q σ H => ∃ w, σ[i]? = some (some w) ∧ te σ H (Keep1 X.env.cells x w Q)) := by
  constructor
  intro pins s σ H Q I ⟨w, hw, h⟩
  refine thn (he.run pins s σ H _ I h) fun v s1 ⟨y, H1, J, r, q⟩ => ?_
  obtain ⟨c, hc⟩ := J.ok.has x (.inl kc)
  obtain ⟨n0, sm, un, hok⟩ := keep1 J kn kc hc (cab c hc) hw
  exact ⟨y, _, J.os, J.bare, un, hok, r, q _ c (fun y z c h1 h2 => J.ok.inj y z c h1 h2) sm hc n0 upd_same⟩
/-- f(..): its cell is lent to the call -/
def tLend1 (cells : List (Str × Addr)) (x : Str) (i : Nat) (sp : Sp) (t : TA) : TSF := fun Q σ H => t σ H fun vs H1 => ∃ w, σ[i]? = some (some w) ∧
  ∀ (H' : Hp) (c : Addr), (∀ y z c, cells.lookup y = some c → cells.lookup z = some c → y = z) → Same H1 H' → cells.lookup x = some c → H1 c = none → H' c = some (CellO c w) → sp vs H' Q E0
theorem pef_lend {j k : Nat} {x y : Str} {i : Nat} {sp : Sp} {p pos : Pos} {e : Expr} {es : List Expr} {t : TA} (kn : X.N[i]? = some x) (kc : X.env.scope.names.lookup x = some .cell) (cab : ∀ c, X.env.cells.lookup x = some c → X.s_0.heap.objs.size ≤ c) (hst : X.stack = X.env :: X.outer) (hfr : X.env.frame = some X.env.locals)
    (c : Cal X.prog X.w X.K X.mg X.base k y sp) (hr : Room j X.A) (hkj : k ≤ j) (hg : Gl X y) (ha : PA X (e :: es) t)
    (hdb : (y == ("__debug__" : Str)) = false := by decide) (he : starEach (e :: es) X.env = (false, eval e X.env) :: starEach es X.env := by rfl) (hpl : (backTo pos (starEach es X.env)).any (·.1) = false := by rfl) :
    PEF X (.Call (.Name y p) (e :: es) [] pos) (tLend1 X.env.cells x i sp t) := by
  constructor
  intro pins s σ H Q I h
  obtain ⟨f, fd, ps, F, hm, kp, hb⟩ := c.ex
  refine wpAny_Call_Name_kw (ld_glob I hg hm ?_ hdb)
  refine PySem.W.callWith_K (h₀ := X.base) I.ok.mod.kin kp (thn (ha.run pos pins s σ H _ I h) fun us s1 ⟨vs, H1, I1, r, w, hw, q⟩ => ⟨I1.kIn, ?_⟩) he hpl
  obtain ⟨cc, hc⟩ := I1.ok.has x (.inl kc)
  obtain ⟨n0, sm, un, hok⟩ := keep1 I1 kn kc hc (cab cc hc) hw
  have e0 := I1.env0
  have hq := q _ cc (fun y z c h1 h2 => I1.ok.inj y z c h1 h2) sm hc n0 upd_same
  have fresh : ∀ b, H1 b = none → b ≠ cc → upd H1 cc (CellO cc w) b = none := fun b h n => by rw [upd_ne n]; exact h
  have nfr : ∀ b ∈ frs X.stack, b ≠ cc := fun b hb z => by
    obtain ⟨v, ob, ho, hd⟩ := I1.cell _ _ hc
    rw [hst] at hb
    have hb' : b ∈ (X.env :: X.outer).filterMap (·.frame) := hb
    rw [List.filterMap_cons, hfr] at hb'
    rcases List.mem_cons.mp hb' with e | hb'
    · obtain ⟨m, ⟨ob2, es, ep, ho2, hd2, _⟩, _⟩ := I1.loc
      rw [← e, z, ho] at ho2
      cases ho2
      rw [hd] at hd2
      cases hd2
    · obtain ⟨_, o2, h2, _⟩ := I1.ok.funs.mem hb'
      exact Nat.lt_irrefl _ (Nat.lt_of_lt_of_le (Heap.lt_size h2) (by rw [z]; exact cab _ hc))
  have e1 : Env0 X.prog X.w X.K X.mg X.base X.A X.stack s1 (upd H1 cc (CellO cc w)) := by
    refine ⟨e0.frames, e0.mod, fun b o e => ⟨(e0.bs b o e).1, fresh b (e0.bs b o e).2 fun z => ?_⟩, e0.bsz, e0.funs, fun b hb => fresh b (e0.frf b hb) (nfr b hb), hok, e0.bare⟩
    exact Nat.lt_irrefl _ (Nat.lt_of_lt_of_le (Heap.lt_size (I1.ok.bs b o e).1) (by rw [z]; exact cab _ hc))
  have hl : us.length = ps.length := by rw [← r.length]; exact F.len _ _ _ _ hq
  refine wpAny_call (codeAny_mono (F.run X.A X.stack s1 _ ⟨us, []⟩ us vs Q E0 (hr.mono hkj) e1 (by have := hb s1 us I1.kIn (by simpa using hl); simpa using this) r hq) fun r s2 hq => ?_)
  cases r with
  | error e => exact hq.elim
  | ok fl =>
    cases fl with
    | next => exact hq.elim
    | brk => exact hq.elim
    | cont => exact hq.elim
    | ret u =>
      obtain ⟨v, H3, os, bare, un3, hok3, rv, hv⟩ := hq
      refine ⟨v, H3, os.trans I1.os, bare, un_trans un un3 fun b hb => ?_, hok3, rv, hv⟩
      rw [hst] at hb
      have hb' : b ∈ (X.env :: X.outer).filterMap (·.frame) := hb
      rw [List.filterMap_cons, hfr] at hb'
      rcases List.mem_cons.mp hb' with e | hb'
      · right
        cases z : X.s_0.heap.get? b with
        | none => rfl
        | some o => exact absurd (Nat.lt_of_lt_of_le (Heap.lt_size z) (by rw [e]; exact I1.ok.above)) (Nat.lt_irrefl _)
      · exact .inl hb'
end
section
variable {P : Program} {w : World} {K : PySem.W.Frag} {mg : Str → Option Value} {base : Heap} {T : List TX}
theorem lokF_of {N fr : List Str} {x : Str} {k : Nat} {q : Str} {params : Arguments} {body : Expr} {scope : Scope} {inner : Option Str} {sp : List V → List V → Hp → VK → Prop} (S : CScope N x fr scope)
    (hb : ∀ (cl : List (Str × Addr)) (c : Addr) (pm ctv : Value) (u : Value), bindArgs (PySem.W.kla_fn "<lambda>" q params body scope cl pm (.ref c) ctv) ⟨[u], []⟩ = pure [(x, u)]) (len : ∀ ws vs H Q, sp ws vs H Q → vs.length = 1)
    (hbody : ∀ (f c : Addr) (cl : List (Str × Addr)) (A : Around) (outer : List Env) (s : Shared) (H : Hp) (ws vs : List V) (Q : VK), Room k (A.deeper (envC ⟨"<lambda>", q, params, [], scope, cl, c⟩ x f s.heap.objs.size)) → ws.length = fr.length → InT mg T H c q inner → sp ws vs H Q →
      ∃ t, PEF (ncxC CX0 P w K mg base N ⟨"<lambda>", q, params, [], scope, cl, c⟩ x f A outer s H fun _ _ _ => False) body t ∧ t Q (startF N vs (ws.map some)) H) : LOkP P w K mg base T (k + 1) q params body scope fr inner sp := by
  constructor
  intro f c cl A outer s H ws vs us Q hr e0 hf hc C r h
  have lim : s.heap.NoLimit := e0.mod.nolimit.keeps fun b o e => (e0.bs b o e).1
  obtain ⟨⟨pm, ctv, ho⟩, _⟩ := e0.hok f _ hf
  have hl := len _ _ _ _ h
  match vs, us, r, hl with
  | [v], [u], r, _ =>
    have ru : RelV v u := by cases r with | cons a _ => exact a
    refine PySem.W.kla_callFunE hr.depth ho rfl S.co S.gen rfl (inT_rec e0.hok hc) ?_
    rw [hb cl c pm ctv u]
    refine wpAny_pure (newEnv_cell S.kind S.one S.par fun g ic hns kp => ⟨lim.keeps kp, ?_⟩)
    show codeAny _ _ (.expr body (envC ⟨"<lambda>", q, params, [], scope, cl, c⟩ x f s.heap.objs.size)) _ _
    have wl := C.len
    rw [List.length_map] at wl
    obtain ⟨t, ht, hq⟩ := hbody f c cl A outer s H ws [v] Q (hr.deeper _) wl hc h
    have I : Inv (ncxC CX0 P w K mg base N ⟨"<lambda>", q, params, [], scope, cl, c⟩ x f A outer s H fun _ _ _ => False) [] (startF N [v] (ws.map some)) H { s with heap := g } := inv_startC S hr.hd e0 ru C ic hns kp
    exact PySem.W.kla_codeExpr (wpAny_mono (ht.run [] _ _ H _ I hq) (fun v' s' hv => hv) fun e s' he => he)
theorem cabC {P : Program} {w : World} {K : PySem.W.Frag} {mg : Str → Option Value} {base : Heap} {N : List Str} {F : NF} {x : Str} {f : Addr} {A : Around} {outer : List Env} {s : Shared} {H : Hp} {E : XK} : ∀ c, (ncxC CX0 P w K mg base N F x f A outer s H E).env.cells.lookup x = some c → (ncxC CX0 P w K mg base N F x f A outer s H E).s_0.heap.objs.size ≤ c := fun c h => by
  have h : ((x, s.heap.objs.size + 1) :: F.cl).lookup x = some c := h
  rw [lookup_own] at h
  cases h
  exact Nat.le_succ _
theorem ncxC_K {P : Program} {w : World} {K : PySem.W.Frag} {mg : Str → Option Value} {base : Heap} {N : List Str} {F : NF} {x : Str} {f : Addr} {A : Around} {outer : List Env} {s : Shared} {H : Hp} {E : XK} : (ncxC CX0 P w K mg base N F x f A outer s H E).K = K := rfl
theorem ncxC_mg {P : Program} {w : World} {K : PySem.W.Frag} {mg : Str → Option Value} {base : Heap} {N : List Str} {F : NF} {x : Str} {f : Addr} {A : Around} {outer : List Env} {s : Shared} {H : Hp} {E : XK} : (ncxC CX0 P w K mg base N F x f A outer s H E).mg = mg := rfl
end
theorem L_lend1 {cells : List (Str × Addr)} {x : Str} {i : Nat} {sp : Sp} {t : TA} {Q : VK} {σ : L2.St} {H : Hp} (h : t σ H fun vs H1 => ∃ w, σ[i]? = some (some w) ∧ ∀ (H' : Hp) (c : Addr), (∀ y z c, cells.lookup y = some c → cells.lookup z = some c → y = z) → Same H1 H' → cells.lookup x = some c → H1 c = none → H' c = some (CellO c w) → sp vs H' Q E0) : tLend1 cells x i sp t Q σ H := h
theorem L_lend {cells : List (Str × Addr)} {as : List (Str × Nat)} {sp : Sp} {t : TA} {Q : VK} {σ : L2.St} {H : Hp} (h : t σ H fun vs H1 => ∃ (as1 : List (Str × Nat)) (ws : List V), (∀ a ∈ as1, a ∈ as) ∧ (as1.map (·.1)).Nodup ∧ as1.map (fun a => slotAt σ a.2) = ws.map some ∧
  ∀ H', (∀ x y c, cells.lookup x = some c → cells.lookup y = some c → x = y) → Same H1 H' → (∀ (i : Nat) a w, as1[i]? = some a → ws[i]? = some w → ∃ c, cells.lookup a.1 = some c ∧ H1 c = none ∧ H' c = some (CellO c w)) → sp vs H' Q E0) : tLend cells as sp t Q σ H := h
end Kt

set_option Elab.async false
set_option linter.all false
set_option maxRecDepth 100000
set_option maxHeartbeats 4000000
/-! SrtI: sorted(d.items()) of a dict whose keys are tuples of ints, whose values are tuples -/
namespace Kt
open PySem PySem.Spec PyProof.Rows L2
/-- a pair: a tuple of ints, a tuple of m -/
def PairI (prog : Program) (w : World) (h : Heap) (v : Value) (y : List Int) (m : List L2.Key) : Prop :=
  ∃ (a k b : Addr) (its : Array Value), v = .ref a ∧ PyProof.Rows.IsTup h a #[.ref k, .ref b] ∧ PyProof.Rows.IsTup h k its ∧ IntsAre its.toList y ∧ IsTupleKey (L2.mixKind prog w) h (y.map Sum.inl) k ∧ IsTupleKey (L2.mixKind prog w) h m b
theorem PairI.keeps {prog : Program} {w : World} {h h' : Heap} {v : Value} {y : List Int} {m : List L2.Key} (x : PairI prog w h v y m) (k : ∀ b o, h.get? b = some o → o.cls = .type "tuple" → h'.get? b = some o) : PairI prog w h' v y m := by
  obtain ⟨a, q, b, its, e, ⟨o, ho, hc, r⟩, ⟨o2, ho2, hc2, r2⟩, hi, ⟨o4, it4, n4, ho4, hc4, r4⟩, ⟨o3, it3, n3, ho3, hc3, r3⟩⟩ := x
  exact ⟨a, q, b, its, e, ⟨o, k _ _ ho hc, hc, r⟩, ⟨o2, k _ _ ho2 hc2, hc2, r2⟩, hi, ⟨o4, it4, n4, k _ _ ho4 hc4, hc4, r4⟩, ⟨o3, it3, n3, k _ _ ho3 hc3, hc3, r3⟩⟩
def keyI (h : Heap) (v : Value) : List Int := match h.get? (DT.refOf (DT.seqAt0 h (DT.refOf (some v)))) with
  | some o => (match o.data with
    | .seq xs _ => xs.toList.map SrtO.iv
    | _ => [])
  | none => []
theorem ints_iv : ∀ {vs : List Value} {ns : List Int}, IntsAre vs ns → vs.map SrtO.iv = ns
  | _, _, .nil => rfl
  | _, _, .cons n t h => by rw [List.map_cons, ints_iv h]; rfl
theorem PairI.key {prog : Program} {w : World} {h : Heap} {v : Value} {y : List Int} {m : List L2.Key} (x : PairI prog w h v y m) : keyI h v = y := by
  obtain ⟨a, k, b, its, rfl, h1, ⟨o, ho, hc, n, hd⟩, hi, _, _⟩ := x
  have e : DT.refOf (DT.seqAt0 h (DT.refOf (some (Value.ref a)))) = k := by
    show DT.refOf (DT.seqAt0 h a) = k
    rw [DT.seqAt0_of h1]
    rfl
  unfold keyI
  rw [e, ho]
  simp only [hd]
  exact ints_iv hi
section
variable {prog : Program} {w : World} {A : Around} {E : Value → Shared → Prop} {s : Shared}
theorem firstsI {h : Heap} {k : Value → List Int} {m : Value → List L2.Key} : ∀ vs : List Value, (∀ v ∈ vs, PairI prog w h v (k v) (m v)) → ∃ fs : List Value, PySem.W.KatTups h vs fs ∧ fs.length = vs.length ∧ ∀ f ∈ fs, ∃ (q : Addr) (o : Obj), f = Value.ref q ∧ h.get? q = some o ∧ o.cls = .type "tuple"
  | [], _ => ⟨[], PySem.W.KatTups.nil, rfl, fun f hf => by simp at hf⟩
  | v :: vs, x => by
    obtain ⟨fs, kt, hl, hi⟩ := firstsI vs fun u hu => x u (List.mem_cons_of_mem _ hu)
    obtain ⟨a, q, b, its, ev, ⟨o, ho, hc, n, hd⟩, ⟨o2, ho2, hc2, _⟩, _, _, _⟩ := x v (List.mem_cons_self ..)
    rw [ev]
    refine ⟨.ref q :: fs, PySem.W.KatTups.cons ho hc hd rfl kt, by rw [List.length_cons, List.length_cons, hl], fun f hf => ?_⟩
    rcases List.mem_cons.mp hf with rfl | hf
    · exact ⟨q, o2, rfl, ho2, hc2⟩
    · exact hi f hf
theorem lex_irr (y : List Int) : HT.lexLt y y = false := by
  induction y with
  | nil => rfl
  | cons a y ih => rw [HT.lexLt_cons, if_pos rfl, ih]
theorem inl_inj {x y : List Int} (h : x.map (Sum.inl : Int → L2.Key) = y.map Sum.inl) : x = y := (List.map_inj_right (fun _ _ e => Sum.inl.inj e)).mp h
theorem cmpI {vs : List Value} {k : Value → List Int} {M : List Int → List L2.Key} (hu : A.units < cLine) (hp : ∀ v ∈ vs, PairI prog w s.heap v (k v) (M (k v))) :
    SrtO.Cmp prog w A s (tuples' false) (fun p => p.1 ∈ vs) (SrtO.lt2 fun v u => HT.lexLt (k v) (k u)) := by
  intro p q hm hm'
  have h1 := hp _ hm
  have h2 := hp _ hm'
  show wpAny (model prog w) A (keyLt' (tuples' false) p.1 q.1) (fun r s' => s' = s ∧ r = HT.lexLt (k p.1) (k q.1)) (fun _ _ => False) s
  generalize k p.1 = y at *
  generalize k q.1 = z at *
  obtain ⟨a, ka, ba, its, e1, ⟨o, ho, hc, n, hd⟩, t2, i2, k1, t3⟩ := h1
  obtain ⟨a', kb, bb, its', e2, ⟨o', ho', hc', n', hd'⟩, t2', i2', k2, t3'⟩ := h2
  rw [e1, e2]
  refine PySem.W.kat_lt ho hd ho' hd' ?_
  show PySem.W.KatLex prog w A false false _ [(Value.ref ka, Value.ref kb), (Value.ref ba, Value.ref bb)] 0 s
  by_cases e : y = z
  · subst e
    refine PySem.W.kat_cons (wpAny_eqBool_tuple hu k1 k2 ?_)
    refine PySem.W.kat_go (fun _ => ?_) (fun e0 => absurd rfl (of_decide_eq_false e0))
    refine PySem.W.kat_yes (PySem.W.kat_cons (wpAny_eqBool_tuple hu t3 t3' ?_))
    refine PySem.W.kat_go (fun _ => ?_) (fun e0 => absurd rfl (of_decide_eq_false e0))
    refine PySem.W.kat_yes (PySem.W.kat_nil ⟨rfl, ?_⟩)
    exact (lex_irr y).symm
  · refine PySem.W.kat_cons (wpAny_eqBool_tuple hu k1 k2 ?_)
    refine PySem.W.kat_go (fun e0 => absurd (inl_inj (of_decide_eq_true e0)) e) (fun _ => ?_)
    refine PySem.W.kat_no ?_
    show wpAny _ _ (oneLt' false _ _) _ _ _
    exact PySem.W.kat_one _ _ (HT.lt_tupInts t2 t2' i2 i2' hu ⟨rfl, rfl⟩)
theorem sortableI {a : Addr} {vs : List Value} {k : Value → List Int} {M : List Int → List L2.Key} (hu : A.units < cLine) (h0 : 0 < vs.length) (hp : ∀ v ∈ vs, PairI prog w s.heap v (k v) (M (k v)))
    (ha : ∀ o, s.heap.get? a = some o → o.cls ≠ .type "tuple") : SrtO.SortableO prog w A s a vs fun v u => HT.lexLt (k v) (k u) := by
  intro h' keep
  have hp' : ∀ v ∈ vs, PairI prog w h' v (k v) (M (k v)) := fun v hm => (hp v hm).keeps fun b o ho hc => keep b o (fun z => by subst z; exact ha o ho hc) ho
  obtain ⟨fs, h1, h2, h3⟩ := firstsI (m := fun v => M (k v)) vs hp'
  refine ⟨tuples' false, fun Q E hq => ?_, cmpI hu hp'⟩
  refine PySem.W.kat_kind (T := .type "tuple") h1 (by omega) (fun f hm => ?_) (by rfl) ?_
  · obtain ⟨q, o, rfl, ho, hc⟩ := h3 f hm
    have z : PySem.W.Looks (model prog w) h' (typeOf (.ref q)) o.cls := (PySem.W.Looks.ld ho).andThen .now
    rw [hc] at z
    exact z
  · have e : (Value.type "tuple" != Value.type "tuple") = false := by first | decide +kernel | rfl | decide
    rw [e]
    exact hq
end
abbrev entI (e : List Int × Addr) : List L2.Key × V := (e.1.map Sum.inl, V.ref e.2)
theorem inl_kV (k : List Int) : (k.map (Sum.inl : Int → L2.Key)).map kV = k.map V.int := by
  rw [List.map_map]
  rfl
/-- keys are ints in tuples, values tuples (M of the key) -/
def rSortII : List V → Hp → VK → Prop := fun vs H Q => ∃ (p a : Addr) (ks : List (List Int × Addr)) (M : List Int → List L2.Key), vs = [.ref p] ∧ H p = some (DX.itemsO p a) ∧ H a = some (.dT (ks.map entI)) ∧ ks.length ≤ 1000000 ∧
  (∀ e ∈ ks, H e.2 = some (.tup ((M e.1).map kV))) ∧
  ∀ (H' : Hp) (l : Addr) (ps : List (Addr × List Int × Addr)), (∀ b o, H b = some o → H' b = some o) → (∀ b, H' b = none → H b = none) → H l = none → (ps.map (·.2)).Perm ks → (ps.map (·.2.1)).Pairwise (fun x y => HT.lexLt y x = false) → H' l = some (.lst (ps.map fun z => V.ref z.1)) →
    (∀ z ∈ ps, ∃ q, H' z.1 = some (.tup [.ref q, .ref z.2.2]) ∧ H' q = some (.tup (z.2.1.map V.int))) → Q (.ref l) H'
/-- tuples already laid are tracked; nothing goes -/
theorem takeTI {X : Cx} {pins : List (Addr × Obj)} {σ : L2.St} {H0 : Hp} {s : Shared} {h' : Heap} {tk : Nat} {P : Addr → List V → Prop} (I0 : Inv X pins σ H0 s) : ∀ (L : List Addr) (H1 : Hp), Inv X pins σ H1 { s with heap := h', toks := tk } → L.Nodup →
    (∀ a ∈ L, s.heap.objs.size ≤ a ∧ H1 a = none ∧ ∃ vs, P a vs ∧ ∀ H2, ObjOk X.prog X.w H2 h' a (.tup vs)) →
    ∃ H2, Inv X pins σ H2 { s with heap := h', toks := tk } ∧ (∀ b o, H1 b = some o → H2 b = some o) ∧ (∀ b, H2 b = none → H1 b = none) ∧ ∀ a ∈ L, ∃ vs, P a vs ∧ H2 a = some (.tup vs)
  | [], H1, I1, _, _ => ⟨H1, I1, fun _ _ e => e, fun _ e => e, fun _ h => nomatch h⟩
  | a :: L, H1, I1, hn, h => by
    obtain ⟨hb, hnone, vs, hP, ok⟩ := h a (List.mem_cons_self ..)
    have I2 : Inv X pins σ (upd H1 a (.tup vs)) { s with heap := h', toks := tk } := I1.take (h' := h') (t' := tk) (fun b ob _ e => e) (I0.fpOk hb hnone) (ok _)
    rw [List.nodup_cons] at hn
    obtain ⟨H2, I3, g, g0, q⟩ := takeTI I0 L (upd H1 a (.tup vs)) I2 hn.2 fun c hc => by
      obtain ⟨c1, c2, c3⟩ := h c (List.mem_cons_of_mem _ hc)
      exact ⟨c1, by rw [upd_ne (fun z => hn.1 (by rw [← z]; exact hc))]; exact c2, c3⟩
    refine ⟨H2, I3, fun b o e => g b o (by rw [upd_ne (ne_of_none e hnone)]; exact e), fun b e => ?_, fun c hc => ?_⟩
    · have z := g0 b e
      by_cases cb : b = a
      · rw [cb]; exact hnone
      · rw [upd_ne cb] at z; exact z
    rcases List.mem_cons.mp hc with rfl | hc
    · exact ⟨vs, hP, g _ _ upd_same⟩
    · exact q c hc
theorem cr_sortedII {X : Cx} (hc : X.calm = true) (hu : X.A.units + 64 < cLine) : CallR X (.builtin "sorted") rSortII := by
  intro pins s σ H xs us Q I r h
  obtain ⟨p, a, ks, M, rfl, hp, ha, hkl, hv, q⟩ := h
  obtain rfl := Vals.ref1 r
  have view : s.heap.IsItemsView p a := (show ObjOk X.prog X.w H s.heap p (DX.itemsO p a) from I.hok p _ hp).1
  obtain ⟨z, hd, xs', rel, o, es, ep, ho, hx, hdat, hes, his, hn⟩ := dt_of I.hok ha
  have l1 : (ks.map entI).length = xs'.length := Paired.length rel
  rw [List.length_map] at l1
  have l2 : es.size = xs'.length := size_of_entries hes
  have hh : X.A.handled = none := I.ok.hd hc
  refine DT.sortedI (es := es) (ep := ep) hh view ⟨o, ho, hx, hdat⟩ (by rw [sizeLine_eq]; omega) fun h' tk as hk hlt hl hG => ?_
  have lak : as.length = ks.length := by omega
  have nd : as.Nodup := List.Pairwise.imp (fun h => Nat.ne_of_lt h) hG.rise
  -- the pairs that were made
  have pr : ∀ (j : Nat) (b : Addr), as[j]? = some b → ∃ (e : List Int × Addr) (kq : Addr), ks[j]? = some e ∧ H kq = some (.tup ((e.1.map (Sum.inl : Int → L2.Key)).map kV)) ∧ h'.get? b = some { cls := .type "tuple", data := .seq #[Value.ref kq, Value.ref e.2] } := by
    intro j b hj
    obtain ⟨en, he, hg⟩ := hG.pairs j b hj
    rw [entry_at hes j] at he
    cases hxj : xs'[j]? with
    | none =>
      rw [hxj] at he
      exact nomatch (show (none : Option DictEntry) = some en from he)
    | some x =>
      rw [hxj] at he
      have een : entryOfKey (tupleKind (mixKind X.prog X.w)) x = en := Option.some.inj he
      obtain ⟨e0, he0, r1, r2, r3⟩ := DX.pget rel hxj
      rw [List.getElem?_map] at he0
      cases hkj : ks[j]? with
      | none =>
        rw [hkj] at he0
        exact nomatch (show (none : Option (List L2.Key × V)) = some e0 from he0)
      | some e =>
        rw [hkj] at he0
        have ee : entI e = e0 := Option.some.inj he0
        rw [← ee] at r2 r3
        have r3' : x.2.2 = Value.ref e.2 := r3
        refine ⟨e, x.2.1, rfl, r2, ?_⟩
        rw [hg, ← een, ← r3']
        all_goals rfl
  have hob : (h'.push { cls := .type "list", data := .seq (as.map Value.ref).toArray }).get? h'.objs.size = some (seqObj "list" (as.map Value.ref).toArray 0) := Heap.get?_push_size _ rfl
  have kb : ∀ b o, s.heap.get? b = some o → (h'.push { cls := .type "list", data := .seq (as.map Value.ref).toArray }).get? b = some o := fun b o e => Heap.get?_push_of_some _ (hk b o e)
  have ne0 : ∀ b o, h'.get? b = some o → b ≠ h'.objs.size := fun b o e => Nat.ne_of_lt (Heap.lt_size e)
  generalize hh2 : h'.push { cls := .type "list", data := .seq (as.map Value.ref).toArray } = h2 at hob kb ⊢
  have ka : ∀ b o, h'.get? b = some o → h2.get? b = some o := fun b o e => by rw [← hh2]; exact Heap.get?_push_of_some _ e
  have pin : ∀ (j : Nat) (b : Addr), as[j]? = some b → ∃ e : List Int × Addr, ks[j]? = some e ∧ PairI X.prog X.w h2 (.ref b) e.1 (M e.1) := by
    intro j b hj
    obtain ⟨e, kq, he, hkq, hg⟩ := pr j b hj
    obtain ⟨ok1, ik1, nk1, hok1, hck1, hdk1, hik1⟩ := (show IsTupleKey (mixKind X.prog X.w) s.heap (e.1.map Sum.inl) kq from key_of I.hok hkq)
    rw [inl_kV] at hkq
    obtain ⟨_, its, rv, ot, hot, hct, nt, hdt⟩ := (show ObjOk X.prog X.w H s.heap kq (.tup (e.1.map V.int)) from I.hok kq _ hkq)
    obtain ⟨ov, iv, nv, hov, hcv, hdv, hiv⟩ := (show IsTupleKey (mixKind X.prog X.w) s.heap (M e.1) e.2 from key_of I.hok (hv e (List.mem_of_getElem? he)))
    exact ⟨e, he, b, kq, e.2, its.toArray, rfl, ⟨_, ka _ _ hg, rfl, 0, rfl⟩, ⟨ot, kb _ _ hot, hct, nt, hdt⟩, (by simpa using rv.ints), ⟨ok1, ik1, nk1, kb _ _ hok1, hck1, hdk1, hik1⟩, ⟨ov, iv, nv, kb _ _ hov, hcv, hdv, hiv⟩⟩
  have tx : ∀ (j : Nat) (b : Addr) (e : List Int × Addr), as[j]? = some b → ks[j]? = some e → keyI h2 (.ref b) = e.1 := by
    intro j b e hj he
    obtain ⟨e', he', hp'⟩ := pin j b hj
    have ee : e' = e := Option.some.inj (he'.symm.trans he)
    rw [← ee]
    exact hp'.key
  have at_ : ∀ v ∈ as.map Value.ref, ∃ (j : Nat) (b : Addr) (e : List Int × Addr), v = .ref b ∧ as[j]? = some b ∧ ks[j]? = some e := by
    intro v hv'
    obtain ⟨b, hb, rfl⟩ := List.mem_map.mp hv'
    obtain ⟨j, hj⟩ := List.mem_iff_getElem?.mp hb
    obtain ⟨e, _, he, _⟩ := pr j b hj
    exact ⟨j, b, e, rfl, hj, he⟩
  refine wpAny_call_entry PyProof.Rows.slot_list_sort ⟨_, hob, rfl⟩ PyProof.Rows.entry_list_sort
    (SrtO.list_sort_ord (s := { s with heap := h2, toks := tk }) (ltv := fun v u => HT.lexLt (keyI h2 v) (keyI h2 u)) (NtL.swo_lexL (keyI h2)) hob (by rw [List.length_map, sizeLine_eq]; omega)
      (fun h2' => sortableI (M := M) (by show X.A.units + 1 + 1 < cLine; omega) (by omega) (fun v hv' => ?_) fun o e => ?_) fun out g1 g2 => ⟨.none, rfl, ?_⟩) (PyProof.Rows.args_list_sort _)
  · obtain ⟨j, b, e, rfl, hj, he⟩ := at_ v hv'
    obtain ⟨e', he', hp'⟩ := pin j b hj
    rw [hp'.key]
    exact hp'
  · have e' : some o = some (seqObj "list" (as.map Value.ref).toArray 0) := e.symm.trans hob
    cases e'
    intro c
    exact absurd (Value.type.inj c) (by decide)
  · show EP X pins σ Q (.ref h'.objs.size) { s with heap := sortedHeap h2 h'.objs.size (as.map Value.ref) out.toArray, toks := tk }
    obtain ⟨zs, pz, ez⟩ := perm_lift (fun z : Addr × List Int × Addr => Value.ref z.1) g2.perm (as.zip ks) (by
      have : (as.zip ks).map (fun z : Addr × List Int × Addr => Value.ref z.1) = ((as.zip ks).map (·.1)).map Value.ref := by rw [List.map_map]; rfl
      rw [this, List.map_fst_zip (by omega)])
    have idx : ∀ z ∈ zs, ∃ j : Nat, as[j]? = some z.1 ∧ ks[j]? = some z.2 := by
      intro z' hz'
      obtain ⟨j, hj⟩ := List.mem_iff_getElem?.mp (pz.mem_iff.mp hz')
      exact ⟨j, List.getElem?_zip_eq_some.mp hj⟩
    have hout : out = zs.map fun z => Value.ref z.1 := ez.symm
    have hperm : (zs.map (·.2)).Perm ks := by
      have e := pz.map (·.2)
      have m2 : (as.zip ks).map (·.2) = ks := List.map_snd_zip (by rw [lak]; exact Nat.le_refl _)
      rw [m2] at e
      exact e
    have hsort : (zs.map (·.2.1)).Pairwise (fun x y => HT.lexLt y x = false) := by
      have g1' : out.Pairwise (fun x y => HT.lexLt (keyI h2 y) (keyI h2 x) = false) := g1
      rw [hout, List.pairwise_map] at g1'
      rw [List.pairwise_map]
      refine List.Pairwise.imp_of_mem (fun {x y} hx hy h => ?_) g1'
      obtain ⟨j, j1, j2⟩ := idx x hx
      obtain ⟨i, i1, i2⟩ := idx y hy
      rw [tx j _ _ j1 j2, tx i _ _ i1 i2] at h
      exact h
    have kF : ∀ b o, b ≠ h'.objs.size → h2.get? b = some o → (sortedHeap h2 h'.objs.size (as.map Value.ref) out.toArray).get? b = some o := fun b o hb e => (PyProof.Rows.sortedHeap_old hb (Heap.lt_size e)).trans e
    have kS : ∀ b o, s.heap.get? b = some o → (sortedHeap h2 h'.objs.size (as.map Value.ref) out.toArray).get? b = some o := fun b o e => kF b o (ne0 _ _ (hk b o e)) (kb b o e)
    obtain ⟨eF, heF⟩ := PyProof.Rows.sortedHeap_at (vs := as.map Value.ref) (out := out.toArray) hob
    have I1 : Inv X pins σ H { s with heap := sortedHeap h2 h'.objs.size (as.map Value.ref) out.toArray, toks := tk } := I.kept (t' := tk) kS
    have hn0 : H h'.objs.size = none := I.hok.fresh (Nat.le_of_lt hlt)
    have hlen : (zs.map fun z => V.ref z.1).length ≤ sizeLine := by
      have e := hperm.length_eq
      rw [List.length_map] at e
      rw [List.length_map, sizeLine_eq]
      omega
    have rv : Vals (zs.map fun z => V.ref z.1) out := by
      rw [hout]
      exact vals_maps (fun z : Addr × List Int × Addr => V.ref z.1) (fun z => Value.ref z.1) zs fun _ _ => rfl
    have I2 : Inv X pins σ (upd H h'.objs.size (.lst (zs.map fun z => V.ref z.1))) { s with heap := sortedHeap h2 h'.objs.size (as.map Value.ref) out.toArray, toks := tk } :=
      I1.take (h' := sortedHeap h2 h'.objs.size (as.map Value.ref) out.toArray) (t' := tk) (fun b ob _ e => e) (I.fpOk (Nat.le_of_lt hlt) hn0) ⟨hlen, out, eF, rv, heF⟩
    obtain ⟨H2, I3, g, g0, qt⟩ := takeTI (P := fun b vs => ∃ (j : Nat) (e : List Int × Addr) (kq : Addr), as[j]? = some b ∧ ks[j]? = some e ∧ vs = [.ref kq, .ref e.2] ∧ H kq = some (.tup (e.1.map V.int))) I as _ I2 nd fun b hb => by
      obtain ⟨j, hj⟩ := List.mem_iff_getElem?.mp hb
      obtain ⟨e, kq, he, hkq, hg⟩ := pr j b hj
      rw [inl_kV] at hkq
      have hbl : s.heap.objs.size ≤ b := Nat.le_of_lt (hG.above b hb)
      refine ⟨hbl, ?_, [.ref kq, .ref e.2], ⟨j, e, kq, hj, he, rfl, hkq⟩, fun H3 => ⟨(by rw [sizeLine_eq]; show 2 ≤ 16777216; omega), [Value.ref kq, Value.ref e.2], .cons rfl (.cons rfl .nil), ⟨_, kF _ _ (ne0 _ _ hg) (ka _ _ hg), rfl, 0, rfl⟩⟩⟩
      rw [upd_ne (ne0 _ _ hg)]
      exact I.hok.fresh hbl
    have gr : ∀ b o, H b = some o → H2 b = some o := fun b o e => g b o (by rw [upd_ne (ne_of_none e hn0)]; exact e)
    refine ⟨.ref h'.objs.size, H2, I3, rfl, q H2 h'.objs.size zs gr (fun b e => ?_) hn0 hperm hsort (g _ _ upd_same) fun z' hz' => ?_⟩
    · have z := g0 b e
      by_cases cb : b = h'.objs.size
      · rw [cb, upd_same] at z
        cases z
      · rw [upd_ne cb] at z
        exact z
    obtain ⟨i, i1, i2⟩ := idx z' hz'
    obtain ⟨vs, ⟨j, e, kq, j1, j2, ev, hkq⟩, hH⟩ := qt z'.1 (List.mem_of_getElem? i1)
    have eij : i = j := (List.getElem?_inj (List.getElem?_eq_some_iff.mp i1).1 nd).mp (i1.trans j1.symm)
    subst eij
    have ee : e = z'.2 := Option.some.inj (j2.symm.trans i2)
    rw [ev, ee] at hH
    rw [ee] at hkq
    exact ⟨kq, hH, gr _ _ hkq⟩
theorem L_sortII {H : Hp} {Q : VK} {p a : Addr} {ks : List (List Int × Addr)} {M : List Int → List L2.Key} (h1 : H p = some (DX.itemsO p a)) (h2 : H a = some (.dT (ks.map entI))) (h3 : ks.length ≤ 1000000) (h4 : ∀ e ∈ ks, H e.2 = some (.tup ((M e.1).map kV)))
    (q : ∀ (H' : Hp) (l : Addr) (ps : List (Addr × List Int × Addr)), Same H H' → (∀ b, H' b = none → H b = none) → H l = none → (ps.map (·.2)).Perm ks → (ps.map (·.2.1)).Pairwise (fun x y => HT.lexLt y x = false) → H' l = some (.lst (ps.map fun z => V.ref z.1)) →
      (∀ z ∈ ps, ∃ q, H' z.1 = some (.tup [.ref q, .ref z.2.2]) ∧ H' q = some (.tup (z.2.1.map V.int))) → Q (.ref l) H') : rSortII [.ref p] H Q := ⟨p, a, ks, M, rfl, h1, h2, h3, h4, q⟩
end Kt

set_option Elab.async false
set_option linter.all false
set_option maxRecDepth 100000
set_option maxHeartbeats 4000000
/-! SrtQ: sorted(q) of a list or a tuple of ints -/
namespace Kt
open PySem PySem.Spec PyProof.Rows L2
def rSortedQ (K : PySem.W.Frag) : List V → Hp → VK → Prop := fun vs H Q => ∃ (a : Addr) (ns : List Int), vs = [V.ref a] ∧ (SqL K H a (ns.map V.int) ∨ SqT K H a (ns.map V.int)) ∧
  ∀ (ns' : List Int) (p : Addr), ns'.Perm ns → ns'.Pairwise (· ≤ ·) → H p = none → Q (.ref p) (upd H p (.lst (ns'.map V.int)))
theorem cr_sortedQ {X : Cx} : CallR X (.builtin "sorted") (rSortedQ X.K) := by
  intro pins s σ H vs us Q I r h
  obtain ⟨a, ns, rfl, hs, q⟩ := h
  rcases hs with hs | hs
  · exact cr_sortedI pins s σ H _ us Q I r ⟨a, ns, rfl, hs, q⟩
  obtain ⟨its, rv, pl, hz⟩ := I.tuple hs
  rw [Vals.ref1 r]
  have hi := rv.ints
  obtain ⟨o, ho, hc, n, hd⟩ := pl
  refine Calls.call_function_entry PyProof.Rows.kind_sorted PyProof.Rows.plain_sorted PyProof.Rows.entry_sorted (PyProof.Rows.args_sorted1 _) ?_
  unfold Builtin.«sorted»
  refine wpAny_bind (m := checkCount "sorted" 1 1 _) (wpAny_pure ?_)
  have hzl : its.length ≤ sizeLine := by rw [← rv.length]; exact hz
  refine wpAny_bind (wpAny_collect_seq a (.inr rfl) ho hc hd (fun h' hk => ?_) (by simpa using hzl))
  have I1 : Inv X pins σ H { s with heap := h' } := I.kept (t' := s.toks) hk
  show wpAny _ _ _ _ _ { s with heap := h' }
  refine wpAny_bind (wpAny_newList ?_ (by simpa using hzl))
  have hoL : (h'.push (seqObj "list" its.toArray.toList.toArray 0)).get? h'.objs.size = some (seqObj "list" its.toArray.toList.toArray 0) := Heap.get?_push_size _ rfl
  show wpAny _ _ _ _ _ { s with heap := h'.push (seqObj "list" its.toArray.toList.toArray 0) }
  refine wpAny_bind (wpAny_holding (wpAny_call_entry PyProof.Rows.slot_list_sort ⟨_, hoL, rfl⟩ PyProof.Rows.entry_list_sort
    (SrtO.list_sort_ord (s := { s with heap := h'.push (seqObj "list" its.toArray.toList.toArray 0) }) SrtO.swo_int hoL (by simpa using hzl) (fun h2 => SrtO.ints_sortable (by simpa using hi) h2) fun out g1 g2 => ⟨_, rfl, ?_⟩) (PyProof.Rows.args_list_sort _)))
  obtain ⟨k1, k2, k3⟩ := SrtO.ints_out hi g1 (by simpa using g2)
  obtain ⟨c, hc2⟩ := PyProof.Rows.sortedHeap_at (vs := its.toArray.toList) (out := out.toArray) hoL
  have hlen : ((out.map SrtO.iv).map V.int).length ≤ sizeLine := by
    rw [List.length_map, k2.length_eq]
    rw [List.length_map] at hz
    exact hz
  refine wpAny_pure ⟨_, rfl, .ref h'.objs.size, upd H h'.objs.size (.lst ((out.map SrtO.iv).map V.int)), I1.laid (t' := s.toks) (fun b u e => ?_) (Nat.le_refl _)
    (show ObjOk X.prog X.w _ _ _ (.lst ((out.map SrtO.iv).map V.int)) from ⟨hlen, out, c, vals_of_ints k1, hc2⟩), rfl, q _ _ k2 k3 (I1.hok.fresh (Nat.le_refl _))⟩
  have hb : b < h'.objs.size := Heap.lt_size e
  rw [PyProof.Rows.sortedHeap_old (Nat.ne_of_lt hb) (by rw [size_push']; exact Nat.lt_succ_of_lt hb)]
  exact Heap.get?_push_of_some _ e
end Kt

set_option Elab.async false
set_option linter.all false
set_option maxRecDepth 100000
set_option maxHeartbeats 4000000
/-! SrtT: sorted(d) of a dict with tuple keys -/
namespace Kt
open PySem PySem.Spec PyProof.Rows L2
/-- how one tuple stands to another: by the first place in which they differ, of whole numbers there -/
inductive LtR : List L2.Key → List L2.Key → Bool → Prop
  | nn : LtR [] [] false
  | nc (b : L2.Key) (bs : List L2.Key) : LtR [] (b :: bs) true
  | cn (a : L2.Key) (as : List L2.Key) : LtR (a :: as) [] false
  | eq (a : L2.Key) {as bs : List L2.Key} {r : Bool} : LtR as bs r → LtR (a :: as) (a :: bs) r
  | lt {i j : Int} (as bs : List L2.Key) : i ≠ j → LtR (Sum.inl i :: as) (Sum.inl j :: bs) (decide (i < j))
theorem LtR.self : ∀ ks : List L2.Key, LtR ks ks false
  | [] => .nn
  | a :: as => .eq a (LtR.self as)
section
variable {prog : Program} {w : World} {A : Around} {E : Value → Shared → Prop} {s : Shared}
theorem katlex {b fin : Bool} {Q : Bool → Shared → Prop} {ks ms : List L2.Key} {r : Bool} (h : LtR ks ms r) : ∀ {us vs : List Value} (i : Nat), ItemsAre (mixKind prog w) ks us → ItemsAre (mixKind prog w) ms vs → fin = decide (ks.length < ms.length) → Q r s →
    PySem.W.KatLex prog w A b fin Q (us.zip vs) i s := by
  induction h with
  | nn =>
    intro us vs i hu hv hf q
    cases hu
    cases hv
    refine PySem.W.kat_nil ?_
    rw [hf]
    exact q
  | nc b bs =>
    intro us vs i hu hv hf q
    cases hu
    cases hv
    refine PySem.W.kat_nil ?_
    rw [hf]
    rw [decide_eq_true (by simp)]
    exact q
  | cn a as =>
    intro us vs i hu hv hf q
    cases hu
    cases hv
    refine PySem.W.kat_nil ?_
    rw [hf]
    rw [decide_eq_false (by simp)]
    exact q
  | eq a hr ih =>
    intro us vs i hu hv hf q
    cases hu with | cons h1 t1 =>
    cases hv with | cons h2 t2 =>
    refine PySem.W.kat_cons ((mixKind prog w).eqBool h1 h2 ?_)
    rw [decide_eq_true rfl]
    refine PySem.W.kat_yes (ih (i + 1) t1 t2 ?_ q)
    rw [hf]
    simp
  | lt as bs hne =>
    intro us vs i hu hv hf q
    cases hu with | cons h1 t1 =>
    cases hv with | cons h2 t2 =>
    refine PySem.W.kat_cons ((mixKind prog w).eqBool h1 h2 ?_)
    rw [decide_eq_false (fun z => hne (Sum.inl.inj z))]
    refine PySem.W.kat_no ?_
    rcases keyIs_shape ((mixKind_is prog w _ _).symm.trans h1) with ⟨x, t, e1, e2⟩ | ⟨x, t, e1, e2⟩
    · rcases keyIs_shape ((mixKind_is prog w _ _).symm.trans h2) with ⟨y, u, e3, e4⟩ | ⟨y, u, e3, e4⟩
      · cases e1
        cases e3
        rw [e2, e4]
        exact TS.oneLt_ints _ q
      · cases e3
    · cases e1
/-- keys that begin with a whole number -/
def IntFirst (k : List L2.Key) : Prop := ∃ i r, k = Sum.inl i :: r
theorem firstsK {h : Heap} {k : Value → List L2.Key} : ∀ {vs : List Value}, (∀ v ∈ vs, ∃ a, v = .ref a ∧ IsTupleKey (mixKind prog w) h (k v) a ∧ IntFirst (k v)) →
    ∃ fs : List Value, PySem.W.KatTups h vs fs ∧ fs.length = vs.length ∧ ∀ f ∈ fs, ∃ x t, f = Value.int x t
  | [], _ => ⟨[], PySem.W.KatTups.nil, rfl, fun f hf => by simp at hf⟩
  | v :: vs, x => by
    obtain ⟨fs, kt, hl, hi⟩ := firstsK (vs := vs) fun u hu => x u (List.mem_cons_of_mem _ hu)
    obtain ⟨a, rfl, ⟨o, items, n, ho, hc, hd, his⟩, i, r, ek⟩ := x v (List.mem_cons_self ..)
    rw [ek] at his
    obtain ⟨us, eus⟩ : ∃ us, items.toList = us := ⟨_, rfl⟩
    rw [eus] at his
    cases his with | cons h1 t1 =>
    rcases keyIs_shape ((mixKind_is prog w _ _).symm.trans h1) with ⟨z, t, e1, e2⟩ | ⟨z, t, e1, e2⟩
    · subst e2
      rename_i us1
      have e0 : items[0]? = some (Value.int z t) := by
        rw [← Array.getElem?_toList, eus]
        rfl
      refine ⟨.int z t :: fs, PySem.W.KatTups.cons ho hc hd e0 kt, by rw [List.length_cons, List.length_cons, hl], fun f hf => ?_⟩
      rcases List.mem_cons.mp hf with rfl | hf
      · exact ⟨z, t, rfl⟩
      · exact hi f hf
    · cases e1
theorem keys_cmp {vs : List Value} {k : Value → List L2.Key} {lt : List L2.Key → List L2.Key → Bool} (b : Bool) (hp : ∀ v ∈ vs, ∃ a, v = .ref a ∧ IsTupleKey (mixKind prog w) s.heap (k v) a)
    (hr : ∀ v ∈ vs, ∀ u ∈ vs, LtR (k v) (k u) (lt (k v) (k u))) : SrtO.Cmp prog w A s (tuples' b) (fun p => p.1 ∈ vs) (SrtO.lt2 fun v u => lt (k v) (k u)) := by
  intro p q hm hm'
  have h1 := hp _ hm
  have h2 := hp _ hm'
  have h3 := hr _ hm _ hm'
  show wpAny (model prog w) A (keyLt' (tuples' b) p.1 q.1) (fun r s' => s' = s ∧ r = lt (k p.1) (k q.1)) (fun _ _ => False) s
  obtain ⟨a, e, o, its, n, ho, hc, hd, hi⟩ := h1
  obtain ⟨a', e', o', its', n', ho', hc', hd', hi'⟩ := h2
  generalize k p.1 = K1 at *
  generalize k q.1 = K2 at *
  rw [e, e']
  refine PySem.W.kat_lt ho hd ho' hd' (katlex h3 0 hi hi' ?_ ⟨rfl, rfl⟩)
  have l1 := hi.length
  have l2 := hi'.length
  rw [← Array.length_toList, ← Array.length_toList, ← l1, ← l2]
theorem keys_sortable {a : Addr} {vs : List Value} {k : Value → List L2.Key} {lt : List L2.Key → List L2.Key → Bool} (h0 : 0 < vs.length) (hp : ∀ v ∈ vs, ∃ a, v = .ref a ∧ IsTupleKey (mixKind prog w) s.heap (k v) a ∧ IntFirst (k v))
    (hr : ∀ v ∈ vs, ∀ u ∈ vs, LtR (k v) (k u) (lt (k v) (k u))) (ha : ∀ o, s.heap.get? a = some o → o.cls ≠ .type "tuple") : SrtO.SortableO prog w A s a vs fun v u => lt (k v) (k u) := by
  intro h' keep
  have hp' : ∀ v ∈ vs, ∃ a, v = .ref a ∧ IsTupleKey (mixKind prog w) h' (k v) a ∧ IntFirst (k v) := fun v hm => by
    obtain ⟨b, e, ⟨o, its, n, ho, hc, hd, hi⟩, f⟩ := hp v hm
    exact ⟨b, e, ⟨o, its, n, keep b o (fun z => by subst z; exact ha o ho hc) ho, hc, hd, hi⟩, f⟩
  obtain ⟨fs, h1, h2, h3⟩ := firstsK hp'
  refine ⟨tuples' true, fun Q E hq => ?_, keys_cmp true (fun v hv => ?_) hr⟩
  · refine PySem.W.kat_kind (T := .type "int") h1 (by omega) (fun f hm => ?_) (by rfl) ?_
    · obtain ⟨x, t, rfl⟩ := h3 f hm
      exact PySem.W.Looks.now
    · have e : (Value.type "int" != Value.type "tuple") = true := by first | decide +kernel | rfl | decide
      rw [e]
      exact hq
  · obtain ⟨b, e, h, _⟩ := hp' v hv
    exact ⟨b, e, h⟩
end
def unKV : V → L2.Key
  | .int i => Sum.inl i
  | .str x => Sum.inr x
  | _ => Sum.inl 0
theorem unKV_k (k : L2.Key) : unKV (kV k) = k := by cases k <;> rfl
/-- the keys of the tuple that a reference shows -/
def kAt (H : Hp) : Value → List L2.Key
  | .ref q => (match H q with
    | some (.tup vs) => vs.map unKV
    | _ => [])
  | _ => []
theorem kAt_of {H : Hp} {q : Addr} {k : List L2.Key} (e : H q = some (.tup (k.map kV))) : kAt H (.ref q) = k := by
  show (match H q with
    | some (.tup vs) => vs.map unKV
    | _ => []) = k
  rw [e]
  show (k.map kV).map unKV = k
  rw [List.map_map]
  have : (unKV ∘ kV) = id := funext fun k => unKV_k k
  rw [this, List.map_id]
def aOf : Value → Addr
  | .ref q => q
  | _ => 0
theorem swo_of {α β : Type} {lt : β → β → Bool} (O : SrtO.Swo lt) (f : α → β) : SrtO.Swo fun x y => lt (f x) (f y) := ⟨fun x y => O.asym (f x) (f y), fun x y z => O.tr (f x) (f y) (f z)⟩
def rSortDT (lt : List L2.Key → List L2.Key → Bool) : List V → Hp → VK → Prop := fun vs H Q => ∃ (a : Addr) (kvs : List (List L2.Key × V)), vs = [V.ref a] ∧ H a = some (.dT kvs) ∧ (∀ k ∈ kvs.map (·.1), IntFirst k) ∧ (∀ k ∈ kvs.map (·.1), ∀ k' ∈ kvs.map (·.1), LtR k k' (lt k k')) ∧
  ∀ (L : List (Addr × List L2.Key)) (p : Addr), (L.map (·.2)).Perm (kvs.map (·.1)) → SrtO.Srtd lt (L.map (·.2)) → (∀ x ∈ L, H x.1 = some (.tup (x.2.map kV))) → H p = none → Q (.ref p) (upd H p (.lst (L.map fun x => V.ref x.1)))
theorem cr_sortedDT {X : Cx} {lt : List L2.Key → List L2.Key → Bool} (calm : X.calm = true) (O : SrtO.Swo lt) : CallR X (.builtin "sorted") (rSortDT lt) := by
  intro pins s σ H vs us Q I r h
  obtain ⟨a, kvs, rfl, ha, hif, hlt, q⟩ := h
  rw [Vals.ref1 r]
  obtain ⟨z, lo, xs, rel, dh⟩ := dt_of I.hok ha
  obtain ⟨es, ep, raw, hsz, hes⟩ := dh.raw
  have hlen : kvs.length = xs.length := Paired.length rel
  have h16 : es.size ≤ sizeLine := by omega
  refine Calls.call_function_entry PyProof.Rows.kind_sorted PyProof.Rows.plain_sorted PyProof.Rows.entry_sorted (PyProof.Rows.args_sorted1 _) ?_
  unfold Builtin.«sorted»
  refine wpAny_bind (m := checkCount "sorted" 1 1 _) (wpAny_pure ?_)
  refine wpAny_bind (PySem.W.kdu_collect (A := X.A.in1) (KdlSrc.rawDict (es := es) (ep := ep) lo) (I.ok.hd calm) raw h16 fun h' tk acc hk hacc => ?_)
  have hal : acc.toList.length = kvs.length := by rw [Array.length_toList, hacc.1]; omega
  -- what was met: the keys' own tuples
  have hat : ∀ (j : Nat) (v : Value), acc.toList[j]? = some v → ∃ (qa : Addr) (k : List L2.Key), v = .ref qa ∧ H qa = some (.tup (k.map kV)) ∧ (kvs.map (·.1))[j]? = some k := fun j v e => by
    rw [Array.getElem?_toList] at e
    obtain ⟨hj, ev⟩ := hacc.2 j v e
    obtain ⟨y, hy, ek, _, _⟩ := hes j hj
    obtain ⟨p, hp, e1, e2, _⟩ := DX.pget rel hy
    refine ⟨y.2.1, p.1, ev.trans ek, e2, ?_⟩
    rw [List.getElem?_map, hp]
    rfl
  have hmap : acc.toList.map (kAt H) = kvs.map (·.1) := by
    refine List.ext_getElem? fun j => ?_
    rw [List.getElem?_map]
    cases e : acc.toList[j]? with
    | none =>
      have := List.getElem?_eq_none_iff.mp e
      rw [List.getElem?_eq_none (by rw [List.length_map]; omega)]
      rfl
    | some v =>
      obtain ⟨qa, k, rfl, e2, e3⟩ := hat j v e
      rw [e3, Option.map_some, kAt_of e2]
  have hmem : ∀ v ∈ acc.toList, ∃ (qa : Addr) (k : List L2.Key), v = .ref qa ∧ H qa = some (.tup (k.map kV)) ∧ k ∈ kvs.map (·.1) := fun v hv => by
    obtain ⟨j, hj⟩ := List.mem_iff_getElem?.mp hv
    obtain ⟨qa, k, e1, e2, e3⟩ := hat j v hj
    exact ⟨qa, k, e1, e2, List.mem_of_getElem? e3⟩
  have I1 : Inv X pins σ H { s with heap := h', toks := tk } := I.kept hk
  refine wpAny_bind (wpAny_newList ?_ (by rw [hal]; exact z))
  have hoL : (h'.push (seqObj "list" acc.toList.toArray 0)).get? h'.objs.size = some (seqObj "list" acc.toList.toArray 0) := Heap.get?_push_size _ rfl
  show wpAny _ _ _ _ _ { s with heap := h'.push (seqObj "list" acc.toList.toArray 0), toks := tk }
  have hkey : ∀ v ∈ acc.toList, ∃ b, v = .ref b ∧ IsTupleKey (mixKind X.prog X.w) (h'.push (seqObj "list" acc.toList.toArray 0)) (kAt H v) b ∧ IntFirst (kAt H v) := fun v hv => by
    obtain ⟨qa, k, rfl, e2, e3⟩ := hmem v hv
    refine ⟨qa, rfl, ?_, ?_⟩
    · rw [kAt_of e2]
      obtain ⟨o, its, n, ho, hc, hd, hi⟩ := key_of I1.hok e2
      exact ⟨o, its, n, Heap.get?_push_of_some _ ho, hc, hd, hi⟩
    · rw [kAt_of e2]
      exact hif k e3
  refine wpAny_bind (wpAny_holding (wpAny_call_entry PyProof.Rows.slot_list_sort ⟨_, hoL, rfl⟩ PyProof.Rows.entry_list_sort
    (SrtO.list_sort_ord (s := { s with heap := h'.push (seqObj "list" acc.toList.toArray 0), toks := tk }) (ltv := fun v u => lt (kAt H v) (kAt H u)) (swo_of O (kAt H)) hoL (by rw [hal]; exact z)
      (fun h2 => keys_sortable (by omega) hkey (fun v hv u hu => ?_) fun o e => ?_) fun out g1 g2 => ⟨_, rfl, ?_⟩) (PyProof.Rows.args_list_sort _)))
  · obtain ⟨qa, k, rfl, e2, e3⟩ := hmem v hv
    obtain ⟨qb, k', rfl, e4, e5⟩ := hmem u hu
    rw [kAt_of e2, kAt_of e4]
    exact hlt k e3 k' e5
  · have e' : some o = some (seqObj "list" acc.toList.toArray 0) := e.symm.trans hoL
    cases e'
    intro c
    exact absurd (Value.type.inj c) (by decide)
  · obtain ⟨c, hc⟩ := PyProof.Rows.sortedHeap_at (vs := acc.toList) (out := out.toArray) hoL
    have hout : ∀ v ∈ out, ∃ (qa : Addr) (k : List L2.Key), v = .ref qa ∧ H qa = some (.tup (k.map kV)) ∧ k ∈ kvs.map (·.1) := fun v hv => hmem v (g2.perm.mem_iff.mp hv)
    have hperm : ((out.map fun v => (aOf v, kAt H v)).map (·.2)).Perm (kvs.map (·.1)) := by
      rw [List.map_map, ← hmap]
      exact g2.perm.map (kAt H)
    have hrefs : (out.map fun v => (aOf v, kAt H v)).map (fun x => V.ref x.1) = out.map fun v => V.ref (aOf v) := by
      rw [List.map_map]
      rfl
    have hvals : Vals (out.map fun v => V.ref (aOf v)) out := by
      have : ∀ (l : List Value), (∀ v ∈ l, ∃ qa, v = Value.ref qa) → Vals (l.map fun v => V.ref (aOf v)) l := by
        intro l
        induction l with
        | nil => exact fun _ => .nil
        | cons v l ih =>
          intro h
          obtain ⟨qa, e⟩ := h v List.mem_cons_self
          subst e
          exact .cons rfl (ih fun u hu => h u (List.mem_cons_of_mem _ hu))
      exact this out fun v hv => let ⟨qa, _, e, _⟩ := hout v hv; ⟨qa, e⟩
    have hol : out.length = kvs.length := by rw [← hal]; exact g2.len
    refine wpAny_pure ⟨_, rfl, .ref h'.objs.size, upd H h'.objs.size (.lst (out.map fun v => V.ref (aOf v))), I1.laid (t' := tk) (fun b u e => ?_) (Nat.le_refl _)
      (show ObjOk X.prog X.w _ _ _ (.lst (out.map fun v => V.ref (aOf v))) from ⟨by rw [List.length_map, hol]; exact z, out, c, hvals, hc⟩), rfl, ?_⟩
    · have hb : b < h'.objs.size := Heap.lt_size e
      rw [PyProof.Rows.sortedHeap_old (Nat.ne_of_lt hb) (by rw [size_push']; exact Nat.lt_succ_of_lt hb)]
      exact Heap.get?_push_of_some _ e
    · rw [← hrefs]
      refine q _ _ hperm ?_ (fun x hx => ?_) (I1.hok.fresh (Nat.le_refl _))
      · rw [List.map_map]
        exact SrtO.srtd_map g1
      · obtain ⟨v, hv, e⟩ := List.mem_map.mp hx
        obtain ⟨qa, k, rfl, e2, _⟩ := hout v hv
        rw [← e]
        show H qa = some (.tup ((kAt H (.ref qa)).map kV))
        rw [kAt_of e2]
        exact e2
/-! ### the order by two whole numbers -/
def two : List L2.Key → Int × Int
  | Sum.inl i :: Sum.inl j :: _ => (i, j)
  | _ => (0, 0)
def ltTwo (k k' : List L2.Key) : Bool := SrtO.lexB (two k) (two k')
theorem swo_two : SrtO.Swo ltTwo := by
  refine ⟨fun x y h => ?_, fun x y z h1 h2 => ?_⟩
  · have a := SrtO.lexB_iff.mp h
    refine SrtO.lexB_no.mpr ?_
    omega
  · have a := SrtO.lexB_no.mp h1
    have b := SrtO.lexB_no.mp h2
    refine SrtO.lexB_no.mpr ?_
    omega
theorem ltR_two {i j i' j' : Int} {r r' : List L2.Key} (h : i = i' → j = j' → r = r') : LtR (Sum.inl i :: Sum.inl j :: r) (Sum.inl i' :: Sum.inl j' :: r') (ltTwo (Sum.inl i :: Sum.inl j :: r) (Sum.inl i' :: Sum.inl j' :: r')) := by
  show LtR _ _ (SrtO.lexB (i, j) (i', j'))
  unfold SrtO.lexB
  by_cases e : i = i'
  · subst e
    rw [if_pos rfl]
    refine .eq _ ?_
    by_cases e2 : j = j'
    · subst e2
      rw [h rfl rfl]
      rw [show decide (((i, j) : Int × Int).2 < ((i, j) : Int × Int).2) = false from decide_eq_false (Int.lt_irrefl _)]
      exact LtR.self _
    · exact .lt _ _ e2
  · rw [if_neg e]
    exact .lt _ _ e
end Kt
set_option Elab.async false
set_option linter.all false
set_option maxRecDepth 100000
set_option maxHeartbeats 4000000
namespace My
open PySem PySem.Spec PyProof.Rows L2 Kt LamX NdefX
/-! one step of a reading; a look at the heap -/
local macro_rules | `(tactic| walk_at "hp") => `(tactic| first
  | assumption
  | exact upd_same
  | (with_reducible apply hp_from; assumption; walk_at "sm"))
local macro_rules | `(tactic| walk_at "hpL") => `(tactic| first | assumption | (with_reducible apply hpL; walk_at "hp"))
local macro_rules | `(tactic| walk_at "hpT") => `(tactic| first | assumption | (with_reducible apply hpT; walk_at "hp"))
local macro_rules | `(tactic| walk_at "st1") => `(tactic| with_reducible first
  | refine L_var rfl ?_
  | refine L_cons ?_
  | refine L_nil ?_
  | refine L_c ?_
  | refine L_op ?_
  | refine L_seq ?_
  | refine L_asg ?_
  | (refine G_gn ?_; refine L_gnameE (by dsimp only [L2.wipe, List.foldl, List.set] <;> rfl) ?_)
  | refine L_k ?_
  | refine L_I0 ?_
  | refine L_addI ?_
  | refine L_tTest ?_
  | refine L_ifS ?_
  | refine L_next ?_
  | refine L_call ?_
  | refine L_callS ?_
  | refine L_T ?_
  | refine L_F ?_
  | refine L_nT ?_
  | refine L_nF ?_
  | refine L_cb ?_
  | refine L_ret ?_
  | refine L_eqI ?_
  | refine L_neI ?_
  | refine L_leI ?_
  | refine L_ltI ?_
  | refine L_or ?_
  | refine L_and ?_
  | refine L_not ?_
  | refine L_tB ?_
  | refine L_drop ?_
  | refine L_bm ?_
  | refine L_tup ?_
  | refine L_lst ?_
  | refine L_fld ?_
  | refine L_chain ?_
  | refine L_chain3 ?_
  | refine L_gname ?_
  | refine L_eqS ?_
  | refine L_neS ?_
  | refine L_eqB ?_
  | refine L_leS ?_
  | refine L_isN ?_
  | refine L_notN ?_
  | refine L_inC ?_
  | refine L_notInC ?_
  | refine L_un ?_
  | refine L_rU ?_
  | refine L_andV ?_
  | refine L_orV ?_
  | refine L_notV ?_
  | refine L_par ?_
  | refine L_par3 ?_
  | refine L_vs2 ?_
  | refine L_vs3 ?_
  | refine L_aug rfl ?_
  | refine L_augS ?_
  | refine L_ipI ?_
  | refine L_retN ?_
  | refine L_brk ?_
  | refine L_cont ?_
  | refine L_tru ?_
  | refine L_truB ?_
  | refine L_truI ?_
  | refine L_abs ?_
  | refine L_max2 ?_
  | refine L_min2 ?_
  | refine L_int1 ?_
  | refine L_int1B ?_
  | refine L_for ?_
  | refine L_iRng1 ?_
  | refine L_iRng2 ?_
  | refine L_iList ?_
  | refine L_iTup ?_
  | refine L_yes ?_
  | refine L_iZip ?_
  | refine L_iEnum ?_
  | refine L_iStr ?_
  | refine L_iRng3 ?_
  | refine L_lc ?_
  | refine L_make ?_
  | refine L_nnT ?_
  | refine L_nnF ?_
  | refine L_disp1 ?_
  | refine L_rng2 ?_
  | refine L_bm0 ?_
  | refine L_neB ?_
  | refine L_dnew ?_
  | refine L_sl ?_
  | refine L_noPart ?_
  | refine L_part ?_
  | refine L_ki ?_
  | refine L_methE ?_
  | refine L_meth ?_
  | refine L_makeE ?_
  | refine L_gCons ?_
  | refine L_gNil ?_
  | refine L_sub ?_
  | refine L_sFld ?_
  | refine L_din ?_
  | refine L_dnin ?_
  | refine L_dget ?_
  | refine L_dput ?_
  | refine L_dget2 ?_
  | refine L_methD ?_
  | refine L_lock ?_
  | refine L_iKeys ?_)
local macro_rules | `(tactic| walk_at "st") => `(tactic| first | walk_at "st1" | walk_at "op" | with_reducible refine L_ifE ?_)
local macro_rules | `(tactic| walk_at "stn") => `(tactic| repeat first | walk_at "st1" | walk_at "op")
local macro_rules | `(tactic| walk_at "sts") => `(tactic| repeat walk_at "st")
/-! the same, and what is shown by itself: sizes, bounds, what stands in the heap -/
local macro_rules | `(tactic| walk_at "bd") => `(tactic| first | exact bd_mod (by decide) | exact bd_64 (by decide) | exact bd_64 (by omega))
local macro_rules | `(tactic| walk_at "sa1") => `(tactic| first
  | walk_at "st"
  | (with_reducible refine G_mod ?_; with_reducible refine L_I (show _ < _ by first | decide | omega) ?_)
  | (with_reducible refine G_mul ?_; with_reducible refine L_mulI (Bd.cmul (n := 64) (m := 64) (by walk_at "bd") (by walk_at "bd")) ?_)
  | (with_reducible refine G_div ?_; with_reducible refine L_I (cdiv_lit (by first | decide | omega)) ?_)
  | (with_reducible refine G_pow ?_; with_reducible first
    | refine L_powE (i := 10) (j := 9) (n := 1000000000) (cpow_lit (by decide)) (by decide) ?_
    | refine L_powE (i := 10) (j := 6) (n := 1000000) (cpow_lit (by decide)) (by decide) ?_
    | refine L_powE (i := 10) (j := 10) (n := 10000000000) (cpow_lit (by decide)) (by decide) ?_
    | refine L_powE (i := 10) (j := 12) (n := 1000000000000) (cpow_lit (by decide)) (by decide) ?_
    | refine L_powE (i := 10) (j := 13) (n := 10000000000000) (cpow_lit (by decide)) (by decide) ?_
    | refine L_powE (i := 10) (j := 20) (n := 100000000000000000000) (cpow_lit (by decide)) (by decide) ?_
    | refine L_powE (i := 10) (j := 29) (n := 100000000000000000000000000000) (cpow_lit (by decide)) (by decide) ?_
    | refine L_powE (i := 10) (j := 30) (n := 1000000000000000000000000000000) (cpow_lit (by decide)) (by decide) ?_
    | refine L_powE (i := 10) (j := 39) (n := 1000000000000000000000000000000000000000) (cpow_lit (by decide)) (by decide) ?_
    | refine L_powE (i := 10) (j := 40) (n := 10000000000000000000000000000000000000000) (cpow_lit (by decide)) (by decide) ?_
    | refine L_powE (i := 10) (j := 60) (n := 1000000000000000000000000000000000000000000000000000000000000) (cpow_lit (by decide)) (by decide) ?_
    | refine L_powE (i := 2) (j := 3) (n := 8) (cpow_lit (by decide)) (by decide) ?_
    | refine L_powE (i := 2) (j := 40) (n := 1099511627776) (cpow_lit (by decide)) (by decide) ?_)
  | (with_reducible refine G_ix ?_; with_reducible first | refine L_ixT (by walk_at "hpT") (by with_unfolding_all rfl) ?_ | refine L_ixL (by walk_at "hpL") (by with_unfolding_all rfl) ?_)
  | (with_reducible refine G_len ?_; with_reducible first | refine L_lenL (by walk_at "hpL") ?_ | refine L_lenT (by walk_at "hpT") ?_)
  | walk_at "fd"
  | (with_reducible refine G_meth ?_; with_reducible refine L_methv (by walk_at "hp") (by with_unfolding_all rfl) ?_)
  | (with_reducible refine G_isi ?_; with_reducible first | refine L_isi (.base (.int _)) (b := true) (by decide +kernel) ?_ | refine L_isi (.base (.int _)) (b := false) (by decide +kernel) ?_)
  | (with_reducible refine G_d ?_; with_reducible first | refine L_dT (by first | assumption | omega) ?_ | refine L_dF (by first | assumption | omega) ?_)
  | (with_reducible refine G_nd ?_; with_reducible first | refine L_ndT (by first | assumption | omega) ?_ | refine L_ndF (by first | assumption | omega) ?_))
local macro_rules | `(tactic| walk_at "sa") => `(tactic| repeat walk_at "sa1")
/-! what stood stands -/
local macro_rules | `(tactic| walk_at "sm") => `(tactic| first
  | assumption
  | exact Same.refl _
  | (with_reducible apply same_upd'; assumption; walk_at "sm")
  | (with_reducible apply same_mut'; assumption; walk_at "sm")
  | (with_reducible apply same_via; assumption; walk_at "sm"))
/-! a new list or tuple: its place p, hp : H p = none, the heap behind it Hn, that all stands, what stands at p -/
local macro_rules | `(tactic| walk_at "nw") => `(tactic| (
  (refine L_new (by first | decide | exact sz_dec (by simp)) ?_)
  (intro p hp)
  (generalize hg : upd _ p _ = Hn)
  (have sn := same_newE hg hp)
  (have en := upd_at hg)
  (clear hg)))
/-! plain things as data -/
local macro_rules | `(tactic| walk_at "dpa") => `(tactic| first
  | exact .nil
  | (refine .cons (by first | exact .int _ | exact .str _ | exact .bl _ | exact .non | assumption) ?_; walk_at "dpa"))
local macro_rules | `(tactic| walk_at "nwp") => `(tactic| (
  (intro p hp)
  (generalize hg : upd _ p _ = Hn)
  (have sn := same_newE hg hp)
  (have en := upd_at hg)
  (clear hg)))

def top (i : Nat) : Stmt := PySem.Challenge.pw_fewspeak_k15_one_behind_another.main.body.getD i (.Pass ⟨0, 0, 0, 0⟩)
abbrev s_NoThrow___init__ : Stmt := inClass (top 2) 0
abbrev s_Told___init__ : Stmt := inClass (top 12) 0
abbrev s_Told_is_told : Stmt := inClass (top 12) 1
abbrev s_Told_kept : Stmt := inClass (top 12) 2
abbrev s_Told_after : Stmt := inClass (top 11) 4
abbrev s_Die___init__ : Stmt := inClass (top 13) 0
abbrev s_Die_is_told : Stmt := inClass (top 11) 0
abbrev s_Die_after : Stmt := inClass (top 13) 3
abbrev s_Die_sides : Stmt := inClass (top 13) 1
abbrev s_Die_parts : Stmt := inClass (top 13) 2
abbrev s_gone_on : Stmt := top 17
abbrev e_gone_on_l0 : Expr := (stV ((defBody s_gone_on).getD 0 s_gone_on))
abbrev s_behind : Stmt := top 18
abbrev s_both : Stmt := top 19
abbrev e_both_l0 : Expr := (xArg 1 (stV ((defBody s_both).getD 0 s_both)))
abbrev e_both_l0_l0 : Expr := (xArg 1 (lamB e_both_l0))
abbrev s_drawn : Stmt := top 14
abbrev s_divisor : Stmt := top 5
abbrev s_share : Stmt := top 6
abbrev s_plus : Stmt := top 7
abbrev s_times : Stmt := top 8
abbrev s_leaves : Stmt := top 15
abbrev s_table : Stmt := top 16
abbrev s__law_make : Stmt := top 28
abbrev e__law_make_l0 : Expr := (stV ((defBody s__law_make).getD 0 s__law_make))
abbrev s__law_node : Stmt := top 29
abbrev s__law_cell : Stmt := top 21
abbrev s__law_mix : Stmt := top 22
abbrev s__law_digits : Stmt := top 23
abbrev s__law_take : Stmt := top 24
abbrev s__law_kept : Stmt := top 26
abbrev s__law_tree : Stmt := top 27
abbrev s__law_divisor : Stmt := top 30
abbrev s__law_lowest : Stmt := top 31
abbrev s__law_sum : Stmt := top 32
abbrev s__law_product : Stmt := top 33
abbrev s__law_walk : Stmt := top 34
abbrev s__law_doubled : Stmt := top 35
abbrev s__law_way : Stmt := top 36
abbrev s__law_both : Stmt := top 37
abbrev s__law_gone_on : Stmt := top 38
abbrev s__law_go : Stmt := top 39
abbrev e__law_go_l0 : Expr := (stV ((defBody s__law_go).getD 0 s__law_go))
abbrev s_law : Stmt := top 40
def tabsX (K : PySem.W.Frag) (mg : Str → Option Value) : List TX := [(pF K mg "gone_on", "gone_on.<locals>.<lambda>", none), (pF K mg "both", "both.<locals>.<lambda>", (some "both.<locals>.<lambda>.<locals>.<lambda>")), (pF K mg "_law_make", "_law_make.<locals>.<lambda>", none), (pF K mg "_law_go", "_law_go.<locals>.<lambda>", none)]
def csL (K : PySem.W.Frag) (mg : Str → Option Value) : List (Addr × Addr) := [(cF K mg "gone_on", pF K mg "gone_on"), (cF K mg "both", pF K mg "both"), (cF K mg "_law_make", pF K mg "_law_make"), (cF K mg "_law_go", pF K mg "_law_go")]
abbrev Tb (K : PySem.W.Frag) (mg : Str → Option Value) (H : Hp) : Prop := TabsX mg (tabsX K mg) H
abbrev Eg (K : PySem.W.Frag) (mg : Str → Option Value) (W : Addr → Prop) (H H1 : Hp) : Prop := Ew mg (tabsX K mg) W H H1
abbrev LamAt_gone_on_l0 (K : PySem.W.Frag) (mg : Str → Option Value) (ws : List V) (f : Addr) (H0 H : Hp) : Prop := LamN mg (tabsX K mg) "gone_on.<locals>.<lambda>" (lamP s_gone_on e_gone_on_l0) (lamB e_gone_on_l0) (lamS s_gone_on e_gone_on_l0) ["go", "make"] none ws f H0 H
abbrev LamAt_both_l0 (K : PySem.W.Frag) (mg : Str → Option Value) (ws : List V) (f : Addr) (H0 H : Hp) : Prop := LamN mg (tabsX K mg) "both.<locals>.<lambda>" (lamP s_both e_both_l0) (lamB e_both_l0) (lamS s_both e_both_l0) ["other"] (some "both.<locals>.<lambda>.<locals>.<lambda>") ws f H0 H
abbrev LamAt_both_l0_l0 (K : PySem.W.Frag) (mg : Str → Option Value) (ws : List V) (f : Addr) (H0 H : Hp) : Prop := LamN mg (tabsX K mg) "both.<locals>.<lambda>.<locals>.<lambda>" (lamP s_both e_both_l0_l0) (lamB e_both_l0_l0) (lamS s_both e_both_l0_l0) ["kept"] none ws f H0 H
abbrev LamAt__law_make_l0 (K : PySem.W.Frag) (mg : Str → Option Value) (ws : List V) (f : Addr) (H0 H : Hp) : Prop := LamN mg (tabsX K mg) "_law_make.<locals>.<lambda>" (lamP s__law_make e__law_make_l0) (lamB e__law_make_l0) (lamS s__law_make e__law_make_l0) ["_law_tree_here"] none ws f H0 H
abbrev LamAt__law_go_l0 (K : PySem.W.Frag) (mg : Str → Option Value) (ws : List V) (f : Addr) (H0 H : Hp) : Prop := LamN mg (tabsX K mg) "_law_go.<locals>.<lambda>" (lamP s__law_go e__law_go_l0) (lamB e__law_go_l0) (lamS s__law_go e__law_go_l0) ["_law_sides"] none ws f H0 H
theorem sc_NoThrow___init__ : FnScope ["self", "place"] ["self", "place"] (defScope s_NoThrow___init__) := ⟨rfl, rfl, rfl, by decide +kernel, rfl, by decide +kernel, by decide +kernel⟩
theorem sc_Told___init__ : FnScope ["self", "kept"] ["self", "kept"] (defScope s_Told___init__) := ⟨rfl, rfl, rfl, by decide +kernel, rfl, by decide +kernel, by decide +kernel⟩
theorem sc_Told_is_told : FnScope ["self"] ["self"] (defScope s_Told_is_told) := ⟨rfl, rfl, rfl, by decide +kernel, rfl, by decide +kernel, by decide +kernel⟩
theorem sc_Told_kept : FnScope ["self"] ["self"] (defScope s_Told_kept) := ⟨rfl, rfl, rfl, by decide +kernel, rfl, by decide +kernel, by decide +kernel⟩
theorem sc_Told_after : FnScope ["self", "throw"] ["self", "throw"] (defScope s_Told_after) := ⟨rfl, rfl, rfl, by decide +kernel, rfl, by decide +kernel, by decide +kernel⟩
theorem sc_Die___init__ : FnScope ["self", "parts"] ["self", "parts"] (defScope s_Die___init__) := ⟨rfl, rfl, rfl, by decide +kernel, rfl, by decide +kernel, by decide +kernel⟩
theorem sc_Die_is_told : FnScope ["self"] ["self"] (defScope s_Die_is_told) := ⟨rfl, rfl, rfl, by decide +kernel, rfl, by decide +kernel, by decide +kernel⟩
theorem sc_Die_after : FnScope ["self", "throw", "many", "make"] ["self", "throw"] (defScope s_Die_after) := ⟨rfl, rfl, rfl, by decide +kernel, rfl, by decide +kernel, by decide +kernel⟩
theorem sc_Die_sides : FnScope ["self", "many", "make"] ["self"] (defScope s_Die_sides) := ⟨rfl, rfl, rfl, by decide +kernel, rfl, by decide +kernel, by decide +kernel⟩
theorem sc_Die_parts : FnScope ["self", "many", "make"] ["self"] (defScope s_Die_parts) := ⟨rfl, rfl, rfl, by decide +kernel, rfl, by decide +kernel, by decide +kernel⟩
theorem sc_gone_on : FnScope ["make", "go"] ["make", "go"] (defScope s_gone_on) := ⟨rfl, rfl, rfl, by decide +kernel, rfl, by decide +kernel, by decide +kernel⟩
theorem sc_behind : FnScope ["node", "go", "many", "make"] ["node", "go"] (defScope s_behind) := ⟨rfl, rfl, rfl, by decide +kernel, rfl, by decide +kernel, by decide +kernel⟩
theorem sc_both : FnScope ["one", "other"] ["one", "other"] (defScope s_both) := ⟨rfl, rfl, rfl, by decide +kernel, rfl, by decide +kernel, by decide +kernel⟩
theorem sc_drawn : FnScope ["node", "throws", "place", "throw"] ["node", "throws"] (defScope s_drawn) := ⟨rfl, rfl, rfl, by decide +kernel, rfl, by decide +kernel, by decide +kernel⟩
theorem sc_divisor : FnScope ["one", "other"] ["one", "other"] (defScope s_divisor) := ⟨rfl, rfl, rfl, by decide +kernel, rfl, by decide +kernel, by decide +kernel⟩
theorem sc_share : FnScope ["top", "bottom", "many"] ["top", "bottom"] (defScope s_share) := ⟨rfl, rfl, rfl, by decide +kernel, rfl, by decide +kernel, by decide +kernel⟩
theorem sc_plus : FnScope ["one", "other"] ["one", "other"] (defScope s_plus) := ⟨rfl, rfl, rfl, by decide +kernel, rfl, by decide +kernel, by decide +kernel⟩
theorem sc_times : FnScope ["one", "other"] ["one", "other"] (defScope s_times) := ⟨rfl, rfl, rfl, by decide +kernel, rfl, by decide +kernel, by decide +kernel⟩
theorem sc_leaves : FnScope ["node", "much", "found", "sides", "many", "behind_it"] ["node", "much", "found"] (defScope s_leaves) := ⟨rfl, rfl, rfl, by decide +kernel, rfl, by decide +kernel, by decide +kernel⟩
theorem sc_table : FnScope ["node", "found", "shares", "kept", "much"] ["node"] (defScope s_table) := ⟨rfl, rfl, rfl, by decide +kernel, rfl, by decide +kernel, by decide +kernel⟩
theorem sc__law_make : FnScope ["_law_tree_here"] ["_law_tree_here"] (defScope s__law_make) := ⟨rfl, rfl, rfl, by decide +kernel, rfl, by decide +kernel, by decide +kernel⟩
theorem sc__law_node : FnScope ["_law_tree_here", "_law_handed", "_law_node_here", "_law_many", "_law_part"] ["_law_tree_here"] (defScope s__law_node) := ⟨rfl, rfl, rfl, by decide +kernel, rfl, by decide +kernel, by decide +kernel⟩
theorem sc__law_cell : FnScope ["_law_script", "_law_k"] ["_law_script", "_law_k"] (defScope s__law_cell) := ⟨rfl, rfl, rfl, by decide +kernel, rfl, by decide +kernel, by decide +kernel⟩
theorem sc__law_mix : FnScope ["_law_cell_here", "_law_k", "_law_number"] ["_law_cell_here", "_law_k"] (defScope s__law_mix) := ⟨rfl, rfl, rfl, by decide +kernel, rfl, by decide +kernel, by decide +kernel⟩
theorem sc__law_digits : FnScope ["_law_cell_here", "_law_number", "_law_k"] ["_law_cell_here"] (defScope s__law_digits) := ⟨rfl, rfl, rfl, by decide +kernel, rfl, by decide +kernel, by decide +kernel⟩
theorem sc__law_take : FnScope ["_law_state", "_law_many", "_law_digit"] ["_law_state", "_law_many"] (defScope s__law_take) := ⟨rfl, rfl, rfl, by decide +kernel, rfl, by decide +kernel, by decide +kernel⟩
theorem sc__law_kept : FnScope ["_law_state", "_law_first", "_law_step", "_law_places", "_law_bits", "_law_k"] ["_law_state"] (defScope s__law_kept) := ⟨rfl, rfl, rfl, by decide +kernel, rfl, by decide +kernel, by decide +kernel⟩
theorem sc__law_tree : FnScope ["_law_state", "_law_deep", "_law_parts", "_law_k", "_law_many"] ["_law_state", "_law_deep"] (defScope s__law_tree) := ⟨rfl, rfl, rfl, by decide +kernel, rfl, by decide +kernel, by decide +kernel⟩
theorem sc__law_divisor : FnScope ["_law_one", "_law_other"] ["_law_one", "_law_other"] (defScope s__law_divisor) := ⟨rfl, rfl, rfl, by decide +kernel, rfl, by decide +kernel, by decide +kernel⟩
theorem sc__law_lowest : FnScope ["_law_top", "_law_bottom", "_law_many"] ["_law_top", "_law_bottom"] (defScope s__law_lowest) := ⟨rfl, rfl, rfl, by decide +kernel, rfl, by decide +kernel, by decide +kernel⟩
theorem sc__law_sum : FnScope ["_law_one", "_law_other"] ["_law_one", "_law_other"] (defScope s__law_sum) := ⟨rfl, rfl, rfl, by decide +kernel, rfl, by decide +kernel, by decide +kernel⟩
theorem sc__law_product : FnScope ["_law_one", "_law_other"] ["_law_one", "_law_other"] (defScope s__law_product) := ⟨rfl, rfl, rfl, by decide +kernel, rfl, by decide +kernel, by decide +kernel⟩
theorem sc__law_walk : FnScope ["_law_tree_here", "_law_much", "_law_found", "_law_kept_here", "_law_many", "_law_part", "_law_sides"] ["_law_tree_here", "_law_much", "_law_found"] (defScope s__law_walk) := ⟨rfl, rfl, rfl, by decide +kernel, rfl, by decide +kernel, by decide +kernel⟩
theorem sc__law_doubled : FnScope ["_law_tree_here", "_law_odd", "_law_halves", "_law_place", "_law_half", "_law_many", "_law_part"] ["_law_tree_here", "_law_odd"] (defScope s__law_doubled) := ⟨rfl, rfl, rfl, by decide +kernel, rfl, by decide +kernel, by decide +kernel⟩
theorem sc__law_way : FnScope ["_law_tree_here", "_law_state", "_law_throws", "_law_many", "_law_part", "_law_throw"] ["_law_tree_here", "_law_state"] (defScope s__law_way) := ⟨rfl, rfl, rfl, by decide +kernel, rfl, by decide +kernel, by decide +kernel⟩
theorem sc__law_both : FnScope ["_law_one", "_law_other", "_law_found", "_law_kept_here", "_law_much", "_law_more", "_law_part"] ["_law_one", "_law_other"] (defScope s__law_both) := ⟨rfl, rfl, rfl, by decide +kernel, rfl, by decide +kernel, by decide +kernel⟩
theorem sc__law_gone_on : FnScope ["_law_tree_here", "_law_sides", "_law_many", "_law_part"] ["_law_tree_here", "_law_sides"] (defScope s__law_gone_on) := ⟨rfl, rfl, rfl, by decide +kernel, rfl, by decide +kernel, by decide +kernel⟩
theorem sc__law_go : FnScope ["_law_sides"] ["_law_sides"] (defScope s__law_go) := ⟨rfl, rfl, rfl, by decide +kernel, rfl, by decide +kernel, by decide +kernel⟩
theorem sc_law : FnScope ["_law_script", "_law_one", "_law_other", "_law_node_here", "_law_cell_here", "_law_state", "_law_first", "_law_kept_here", "_law_second", "_law_more", "_law_sides", "_law_due"] ["_law_script"] (defScope s_law) := ⟨rfl, rfl, rfl, by decide +kernel, rfl, by decide +kernel, by decide +kernel⟩
/-- what the top has written -/
structure Txt (K : PySem.W.Frag) (mg : Str → Option Value) (base : Heap) : Prop where
  m_SpeakError : mg "SpeakError" = some (.ref (cA mg "SpeakError"))
  b_SpeakError : BaseI K (cA mg "SpeakError")
  m_NoThrow : mg "NoThrow" = some (.ref (cA mg "NoThrow"))
  o_NoThrow : OexC K (cA mg "NoThrow")
  na_NoThrow_place : PySem.W.findIn K (.ref (cA mg "NoThrow")) "place" = some none
  n_sorted : mg "sorted" = none
  n_tuple : mg "tuple" = none
  m_Told : mg "Told" = some (.ref (cA mg "Told"))
  k_Told : Cls K (cA mg "Told")
  na_Told_places : NoAttr K (cA mg "Told") "places"
  m_Die : mg "Die" = some (.ref (cA mg "Die"))
  k_Die : Cls K (cA mg "Die")
  na_Die_ways : NoAttr K (cA mg "Die") "ways"
  n_bool : mg "bool" = none
  n_int : mg "int" = none
  n_isinstance : mg "isinstance" = none
  n_sum : mg "sum" = none
  n_enumerate : mg "enumerate" = none
  n_len : mg "len" = none
  y_NoThrow : ExcK K (cA mg "NoThrow")
  n_abs : mg "abs" = none
  g_MOST_WAYS : ∃ u, mg "MOST_WAYS" = some u ∧ RelV (.int 4096) u
  m_TooMany : mg "TooMany" = some (.ref (cA mg "TooMany"))
  x_TooMany : ExcAt K (cA mg "TooMany")
  n_list : mg "list" = none
  n_range : mg "range" = none
  z_NoThrow : L2.ExcC K (cA mg "NoThrow")
  e_NoThrow_NoThrow : PySem.W.subIn K (.ref (cA mg "NoThrow")) (.ref (cA mg "NoThrow")) = some true
  y_TooMany : ExcK K (cA mg "TooMany")
  xi_NoThrow : XIniAt K (cA mg "NoThrow") "NoThrow.__init__" s_NoThrow___init__ ["self", "place"]
  i_Told : InitAt K (cA mg "Told") "Told.__init__" s_Told___init__ ["self", "kept"]
  d_Told_is_told : MethAt K (cA mg "Told") "is_told" "Told.is_told" s_Told_is_told ["self"]
  d_Told_kept : MethAt K (cA mg "Told") "kept" "Told.kept" s_Told_kept ["self"]
  d_Told_after : MethAt K (cA mg "Told") "after" "Node.after" s_Told_after ["self", "throw"]
  i_Die : InitAt K (cA mg "Die") "Die.__init__" s_Die___init__ ["self", "parts"]
  d_Die_is_told : MethAt K (cA mg "Die") "is_told" "Node.is_told" s_Die_is_told ["self"]
  d_Die_after : MethAt K (cA mg "Die") "after" "Die.after" s_Die_after ["self", "throw"]
  d_Die_sides : MethAt K (cA mg "Die") "sides" "Die.sides" s_Die_sides ["self"]
  d_Die_parts : MethAt K (cA mg "Die") "parts" "Die.parts" s_Die_parts ["self"]
  d_gone_on : DefC K mg "gone_on" s_gone_on ["make", "go"]
  tb_gone_on : TabB base mg (cF K mg "gone_on") (pF K mg "gone_on")
  hu_gone_on : ∀ p ∈ tabsX K mg, p.1 = pF K mg "gone_on" → p.2 = (("gone_on.<locals>.<lambda>" : Str), (none : Option Str))
  d_behind : DefAt K mg "behind" s_behind ["node", "go"]
  d_both : DefC K mg "both" s_both ["one", "other"]
  tb_both : TabB base mg (cF K mg "both") (pF K mg "both")
  hu_both : ∀ p ∈ tabsX K mg, p.1 = pF K mg "both" → p.2 = (("both.<locals>.<lambda>" : Str), ((some "both.<locals>.<lambda>.<locals>.<lambda>") : Option Str))
  d_drawn : DefAt K mg "drawn" s_drawn ["node", "throws"]
  d_divisor : DefAt K mg "divisor" s_divisor ["one", "other"]
  d_share : DefAt K mg "share" s_share ["top", "bottom"]
  d_plus : DefAt K mg "plus" s_plus ["one", "other"]
  d_times : DefAt K mg "times" s_times ["one", "other"]
  d_leaves : DefAt K mg "leaves" s_leaves ["node", "much", "found"]
  d_table : DefAt K mg "table" s_table ["node"]
  d__law_make : DefC K mg "_law_make" s__law_make ["_law_tree_here"]
  tb__law_make : TabB base mg (cF K mg "_law_make") (pF K mg "_law_make")
  hu__law_make : ∀ p ∈ tabsX K mg, p.1 = pF K mg "_law_make" → p.2 = (("_law_make.<locals>.<lambda>" : Str), (none : Option Str))
  d__law_node : DefAt K mg "_law_node" s__law_node ["_law_tree_here"]
  d__law_cell : DefAt K mg "_law_cell" s__law_cell ["_law_script", "_law_k"]
  d__law_mix : DefAt K mg "_law_mix" s__law_mix ["_law_cell_here", "_law_k"]
  d__law_digits : DefAt K mg "_law_digits" s__law_digits ["_law_cell_here"]
  d__law_take : DefAt K mg "_law_take" s__law_take ["_law_state", "_law_many"]
  d__law_kept : DefAt K mg "_law_kept" s__law_kept ["_law_state"]
  d__law_tree : DefAt K mg "_law_tree" s__law_tree ["_law_state", "_law_deep"]
  d__law_divisor : DefAt K mg "_law_divisor" s__law_divisor ["_law_one", "_law_other"]
  d__law_lowest : DefAt K mg "_law_lowest" s__law_lowest ["_law_top", "_law_bottom"]
  d__law_sum : DefAt K mg "_law_sum" s__law_sum ["_law_one", "_law_other"]
  d__law_product : DefAt K mg "_law_product" s__law_product ["_law_one", "_law_other"]
  d__law_walk : DefAt K mg "_law_walk" s__law_walk ["_law_tree_here", "_law_much", "_law_found"]
  d__law_doubled : DefAt K mg "_law_doubled" s__law_doubled ["_law_tree_here", "_law_odd"]
  d__law_way : DefAt K mg "_law_way" s__law_way ["_law_tree_here", "_law_state"]
  d__law_both : DefAt K mg "_law_both" s__law_both ["_law_one", "_law_other"]
  d__law_gone_on : DefAt K mg "_law_gone_on" s__law_gone_on ["_law_tree_here", "_law_sides"]
  d__law_go : DefC K mg "_law_go" s__law_go ["_law_sides"]
  tb__law_go : TabB base mg (cF K mg "_law_go") (pF K mg "_law_go")
  hu__law_go : ∀ p ∈ tabsX K mg, p.1 = pF K mg "_law_go" → p.2 = (("_law_go.<locals>.<lambda>" : Str), (none : Option Str))
  d_law : DefAt K mg "law" s_law ["_law_script"]
/-- what f holds, called at the level k -/
def RunsC (K : PySem.W.Frag) (mg : Str → Option Value) (k : Nat) : RunT := fun f vs H Q => ∀ (P : Program) (w : World) (base : Heap), Txt K mg base → RunOk P w K mg base k f vs H Q
section
variable {P : Program} {w : World} {K : PySem.W.Frag} {mg : Str → Option Value} {base : Heap}
theorem fd_Told_places (T : Txt K mg base) {H : Hp} {a dx : Addr} {fs : List (Str × V)} {v : V} {Q : V → Prop} (h : H a = some (.ins (cA mg "Told") dx fs)) (l : fs.lookup ("places" : Str) = some v) (q : Q v) : ∃ a1 C dx fs v, V.ref a = V.ref a1 ∧ H a1 = some (.ins C dx fs) ∧ Cls K C ∧ NoAttr K C "places" ∧ fs.lookup ("places" : Str) = some v ∧ Q v := L_fldv h T.k_Told T.na_Told_places l q
theorem fg_Told_places {H : Hp} {a : Addr} {Q : V → Prop} (h : ∃ a1 C dx fs v, V.ref a = V.ref a1 ∧ H a1 = some (.ins C dx fs) ∧ Cls K C ∧ NoAttr K C "places" ∧ fs.lookup ("places" : Str) = some v ∧ Q v) : ∃ a1 C dx fs v, V.ref a = V.ref a1 ∧ H a1 = some (.ins C dx fs) ∧ Cls K C ∧ NoAttr K C "places" ∧ fs.lookup ("places" : Str) = some v ∧ Q v := h
local macro_rules | `(tactic| walk_at "fd") => `(tactic| (with_reducible refine fg_Told_places ?_; with_reducible refine fd_Told_places (by assumption) (by walk_at "hp") (by with_unfolding_all rfl) ?_))
theorem fd_Die_ways (T : Txt K mg base) {H : Hp} {a dx : Addr} {fs : List (Str × V)} {v : V} {Q : V → Prop} (h : H a = some (.ins (cA mg "Die") dx fs)) (l : fs.lookup ("ways" : Str) = some v) (q : Q v) : ∃ a1 C dx fs v, V.ref a = V.ref a1 ∧ H a1 = some (.ins C dx fs) ∧ Cls K C ∧ NoAttr K C "ways" ∧ fs.lookup ("ways" : Str) = some v ∧ Q v := L_fldv h T.k_Die T.na_Die_ways l q
theorem fg_Die_ways {H : Hp} {a : Addr} {Q : V → Prop} (h : ∃ a1 C dx fs v, V.ref a = V.ref a1 ∧ H a1 = some (.ins C dx fs) ∧ Cls K C ∧ NoAttr K C "ways" ∧ fs.lookup ("ways" : Str) = some v ∧ Q v) : ∃ a1 C dx fs v, V.ref a = V.ref a1 ∧ H a1 = some (.ins C dx fs) ∧ Cls K C ∧ NoAttr K C "ways" ∧ fs.lookup ("ways" : Str) = some v ∧ Q v := h
local macro_rules | `(tactic| walk_at "fd") => `(tactic| (with_reducible refine fg_Die_ways ?_; with_reducible refine fd_Die_ways (by assumption) (by walk_at "hp") (by with_unfolding_all rfl) ?_))
def sp_NoThrow___init__ (K : PySem.W.Frag) (mg : Str → Option Value) : Sp := fun vs H Q _ => match vs with | [.ref a, v] => XIni1 (cA mg "NoThrow") "place" a v H Q | _ => False
theorem q_NoThrow___init__ {H : Hp} {Q : VK} {E : XK} {a : Addr} {v : V} (q : XIni1 (cA mg "NoThrow") "place" a v H Q) : sp_NoThrow___init__ K mg [.ref a, v] H Q E := q
local macro_rules | `(tactic| walk_at "op") => `(tactic| with_reducible refine q_NoThrow___init__ ?_)
theorem x_NoThrow (T : Txt K mg base) : XMak P w K mg base 1 "NoThrow" (cA mg "NoThrow") (sp_NoThrow___init__ K mg) := by
  refine XIniAt.xmak T.m_NoThrow T.xi_NoThrow (k := 0) sc_NoThrow___init__ (by intro vs H Q E h; unfold sp_NoThrow___init__ at h; split at h <;> first | rfl | exact h.elim) fun f cdv A outer s H vs Q E hr h => ?_
  refine ⟨_, (pss_cons (ps_expr (pe_baseI (by rfl) T.m_SpeakError T.b_SpeakError (pa_cons (pv 0) (pa_cons pe_str pa_nil))))
    (pss_one (ps_ost (pv 0) (pv 1) rfl))), ?_⟩
  try simp only [cxOf_K, cxOf_K', cxOf_mg, cxOf_mg']
  unfold sp_NoThrow___init__ at h
  split at h
  case h_2 => exact h.elim
  rename_i a v
  rw [show L2.start ["self", "place"] [V.ref a, v] = [some (V.ref a), some (v)] from rfl]
  obtain ⟨ha, q⟩ := h
  walk_at "sts"
  refine L_tveI ?_
  walk_at "sts"
  refine L_veI T.o_NoThrow ha (by rw [List.length_singleton]; decide) ?_
  walk_at "sts"
  refine L_ost ?_
  walk_at "sts"
  refine L_ost1 T.o_NoThrow T.na_NoThrow_place ha fun dx nx ne => ?_
  exact q dx nx ne
theorem xh_NoThrow (T : Txt K mg base) : XMakH P w K mg base 1 "NoThrow" (cA mg "NoThrow") (sp_NoThrow___init__ K mg) := by
  refine XIniAt.xmakH T.m_NoThrow T.xi_NoThrow (k := 0) sc_NoThrow___init__ (by intro vs H Q E h; unfold sp_NoThrow___init__ at h; split at h <;> first | rfl | exact h.elim) fun f cdv A outer s H vs Q E p hr h => ?_
  refine ⟨_, (pss_cons (ps_expr (pe_baseI (by rfl) T.m_SpeakError T.b_SpeakError (pa_cons (pv 0) (pa_cons pe_str pa_nil))))
    (pss_one (ps_ost (pv 0) (pv 1) rfl))), ?_⟩
  try simp only [cxH_K]
  unfold sp_NoThrow___init__ at h
  split at h
  case h_2 => exact h.elim
  rename_i a v
  rw [show L2.start ["self", "place"] [V.ref a, v] = [some (V.ref a), some (v)] from rfl]
  obtain ⟨ha, q⟩ := h
  walk_at "sts"
  refine L_tveI ?_
  walk_at "sts"
  refine L_veI T.o_NoThrow ha (by rw [List.length_singleton]; decide) ?_
  walk_at "sts"
  refine L_ost ?_
  walk_at "sts"
  refine L_ost1 T.o_NoThrow T.na_NoThrow_place ha fun dx nx ne => ?_
  exact q dx nx ne
/-- NoThrow is raised with a place -/
def NoThr (mg : Str → Option Value) (k : Int) (H : Hp) (E : XK) : Prop := ∀ d H', Same H H' → H' d = some (.xd [("place", .int k)]) → E (.ref (cA mg "NoThrow")) (some d) H'
theorem q_noThrow {H : Hp} {E : XK} {k : Int} (q : NoThr mg k H E) : [V.int k].length ≤ 1000 ∧ ∀ a, H a = none → sp_NoThrow___init__ K mg (.ref a :: ([V.int k] ++ [])) (upd H a (exo a (cA mg "NoThrow") none))
  (fun v H2 => v = .non ∧ ∃ (d : Addr) (fs : List (Str × V)), H2 a = some (exo a (cA mg "NoThrow") (some d)) ∧ H2 d = some (exd d fs) ∧ H d = none ∧ E (.ref (cA mg "NoThrow")) (some d) (upd (del H2 a) d (.xd fs))) (fun _ _ _ => False) :=
  L_mkO1 (fun _ _ _ _ h => h) fun d nd => q d _ (same_new nd) upd_same
/-- ints in order -/
def srtI (l : List Int) : List Int := l.mergeSort fun a b => decide (a ≤ b)
theorem srtI_eq {l m : List Int} (h1 : m.Perm l) (h2 : m.Pairwise (· ≤ ·)) : m = srtI l := by
  have e1 : (srtI l).Perm l := List.mergeSort_perm l _
  have e2 : (srtI l).Pairwise (· ≤ ·) := (List.pairwise_mergeSort (le := fun a b : Int => decide (a ≤ b)) (fun a b c h1 h2 => by simp only [decide_eq_true_eq] at *; omega) (fun a b => by simp only [Bool.or_eq_true, decide_eq_true_eq]; omega) l).imp fun h => by simpa using h
  exact List.Perm.eq_of_pairwise (le := (· ≤ ·)) (fun a b _ _ h3 h4 => Int.le_antisymm h3 h4) h2 e2 (h1.trans e1.symm)
theorem srtI_len (l : List Int) : (srtI l).length = l.length := (List.mergeSort_perm l _).length_eq
def sp_Told___init__ (K : PySem.W.Frag) (mg : Str → Option Value) : Sp := fun vs H Q _ => match vs with | [.ref x, .ref k] => ∃ dx ks, H x = some (.ins (cA mg "Told") dx []) ∧ (SqL K H k (ks.map V.int) ∨ SqT K H k (ks.map V.int)) ∧ ∀ p H', (∀ b o, H b = some o → b ≠ x → H' b = some o) → H' x = some (.ins (cA mg "Told") dx [("places", .ref p)]) → H' p = some (.tup ((srtI ks).map V.int)) → Q .non H' | _ => False
theorem q_Told___init__ {H : Hp} {Q : VK} {E : XK} {x : Addr} {k : Addr} (q : ∃ dx ks, H x = some (.ins (cA mg "Told") dx []) ∧ (SqL K H k (ks.map V.int) ∨ SqT K H k (ks.map V.int)) ∧ ∀ p H', (∀ b o, H b = some o → b ≠ x → H' b = some o) → H' x = some (.ins (cA mg "Told") dx [("places", .ref p)]) → H' p = some (.tup ((srtI ks).map V.int)) → Q .non H') : sp_Told___init__ K mg [.ref x, .ref k] H Q E := q
local macro_rules | `(tactic| walk_at "op") => `(tactic| with_reducible refine q_Told___init__ ?_)
theorem m_Told (T : Txt K mg base) : Mak P w K mg base 1 "Told" (cA mg "Told") (sp_Told___init__ K mg) := by
  refine InitAt.mak T.m_Told T.i_Told (k := 0) sc_Told___init__ (by intro vs H Q E h; unfold sp_Told___init__ at h; split at h <;> first | rfl | exact h.elim) fun f cdv A outer s H vs Q E hr h => ?_
  refine ⟨_, (pss_one (ps_fld (pv 0) (pe_callTy call_tuple1A (by rfl) T.n_tuple (by decide +kernel) (pa_cons (pe_callB cr_sortedQ (by rfl) T.n_sorted (by decide +kernel) (pa_cons (pv 1) pa_nil)) pa_nil)) rfl)), ?_⟩
  try simp only [cxOf_K, cxOf_K', cxOf_mg, cxOf_mg']
  unfold sp_Told___init__ at h
  split at h
  case h_2 => exact h.elim
  rename_i x k
  rw [show L2.start ["self", "kept"] [V.ref x, V.ref k] = [some (V.ref x), some (V.ref k)] from rfl]
  obtain ⟨dx, ks, hx, hS, q⟩ := h
  walk_at "sts"
  refine ⟨k, ks, rfl, hS, fun ns p hp hs hn => ?_⟩
  cases srtI_eq hp hs
  walk_at "sts"
  refine L_tuple1 (.of upd_same) fun l hl => ?_
  have s1 := same_new (o := .lst ((srtI ks).map V.int)) hn
  have s2 := s1.trans (same_new (o := .tup ((srtI ks).map V.int)) hl)
  walk_at "sts"
  refine L_sFldv (s2 _ _ hx) T.k_Told T.na_Told_places (by decide) ?_
  have nl : l ≠ x := fun z => by rw [z] at hl; rw [s1 _ _ hx] at hl; cases hl
  exact q l _ (fun b o hb ne => by rw [upd_ne ne]; exact s2 _ _ hb) upd_same (by rw [upd_ne nl]; exact upd_same)
def sp_Told_is_told (K : PySem.W.Frag) (mg : Str → Option Value) : Sp := fun vs H Q _ => match vs with | [.ref a] => Q (.bl true) H | _ => False
theorem q_Told_is_told {H : Hp} {Q : VK} {E : XK} {a : Addr} (q : Q (.bl true) H) : sp_Told_is_told K mg [.ref a] H Q E := q
local macro_rules | `(tactic| walk_at "op") => `(tactic| with_reducible refine q_Told_is_told ?_)
theorem c_Told_is_told (T : Txt K mg base) : Met P w K mg base 1 (cA mg "Told") "is_told" (sp_Told_is_told K mg) := by
  refine MethAt.met T.k_Told T.d_Told_is_told (k := 0) sc_Told_is_told (by intro vs H Q E h; unfold sp_Told_is_told at h; split at h <;> first | rfl | exact h.elim) fun f cdv A outer s H vs Q E hr h => ?_
  refine ⟨_, (pss_one (ps_ret pe_bl)), ?_⟩
  try simp only [cxOf_K, cxOf_K', cxOf_mg, cxOf_mg']
  unfold sp_Told_is_told at h
  split at h
  case h_2 => exact h.elim
  rename_i a
  rw [show L2.start ["self"] [V.ref a] = [some (V.ref a)] from rfl]
  walk_at "sts"
  exact h
def sp_Told_kept (K : PySem.W.Frag) (mg : Str → Option Value) : Sp := fun vs H Q _ => match vs with | [.ref a] => ∃ dx p, H a = some (.ins (cA mg "Told") dx [("places", .ref p)]) ∧ Q (.ref p) H | _ => False
theorem q_Told_kept {H : Hp} {Q : VK} {E : XK} {a : Addr} (q : ∃ dx p, H a = some (.ins (cA mg "Told") dx [("places", .ref p)]) ∧ Q (.ref p) H) : sp_Told_kept K mg [.ref a] H Q E := q
local macro_rules | `(tactic| walk_at "op") => `(tactic| with_reducible refine q_Told_kept ?_)
theorem c_Told_kept (T : Txt K mg base) : Met P w K mg base 1 (cA mg "Told") "kept" (sp_Told_kept K mg) := by
  refine MethAt.met T.k_Told T.d_Told_kept (k := 0) sc_Told_kept (by intro vs H Q E h; unfold sp_Told_kept at h; split at h <;> first | rfl | exact h.elim) fun f cdv A outer s H vs Q E hr h => ?_
  refine ⟨_, (pss_one (ps_ret (pe_fld (pv 0) rfl))), ?_⟩
  try simp only [cxOf_K, cxOf_K', cxOf_mg, cxOf_mg']
  unfold sp_Told_kept at h
  split at h
  case h_2 => exact h.elim
  rename_i a
  rw [show L2.start ["self"] [V.ref a] = [some (V.ref a)] from rfl]
  obtain ⟨dx, p, ha, q⟩ := h
  walk_at "sts"
  refine L_fldv ha T.k_Told T.na_Told_places rfl ?_
  exact q
def sp_Told_after (K : PySem.W.Frag) (mg : Str → Option Value) : Sp := fun vs H Q E => match vs with | [.ref a, t] => NoThr mg 0 H E | _ => False
theorem q_Told_after {H : Hp} {Q : VK} {E : XK} {a : Addr} {t : V} (q : NoThr mg 0 H E) : sp_Told_after K mg [.ref a, t] H Q E := q
local macro_rules | `(tactic| walk_at "op") => `(tactic| with_reducible refine q_Told_after ?_)
theorem c_Told_after (T : Txt K mg base) : MetN P w K mg base 3 (cA mg "Told") "after" (sp_Told_after K mg) := by
  refine MethAt.metN T.k_Told T.d_Told_after (k := 2) sc_Told_after (by intro vs H Q E h; unfold sp_Told_after at h; split at h <;> first | rfl | exact h.elim) fun f cdv A outer s H vs Q E hr h => ?_
  refine ⟨_, (pss_one (L2N.ps_raise rfl (L2N.takes_of rfl rfl rfl rfl) (pmkN_x (x_NoThrow T) T.o_NoThrow hr (by decide) (by rfl) (pa_cons pe_int pa_nil)))), ?_⟩
  try simp only [cxOf_K, cxOf_K', cxOf_mg, cxOf_mg']
  unfold sp_Told_after at h
  split at h
  case h_2 => exact h.elim
  rename_i a t
  rw [show L2.start ["self", "throw"] [V.ref a, t] = [some (V.ref a), some (t)] from rfl]
  walk_at "sts"
  refine L_mkO ?_
  walk_at "sts"
  exact q_noThrow h
def sp_Die___init__ (K : PySem.W.Frag) (mg : Str → Option Value) : Sp := fun vs H Q _ => match vs with | [.ref x, .ref k] => ∃ dx xs, H x = some (.ins (cA mg "Die") dx []) ∧ SqL K H k xs ∧ ∀ p H', (∀ b o, H b = some o → b ≠ x → H' b = some o) → H' x = some (.ins (cA mg "Die") dx [("ways", .ref p)]) → H' p = some (.tup xs) → Q .non H' | _ => False
theorem q_Die___init__ {H : Hp} {Q : VK} {E : XK} {x : Addr} {k : Addr} (q : ∃ dx xs, H x = some (.ins (cA mg "Die") dx []) ∧ SqL K H k xs ∧ ∀ p H', (∀ b o, H b = some o → b ≠ x → H' b = some o) → H' x = some (.ins (cA mg "Die") dx [("ways", .ref p)]) → H' p = some (.tup xs) → Q .non H') : sp_Die___init__ K mg [.ref x, .ref k] H Q E := q
local macro_rules | `(tactic| walk_at "op") => `(tactic| with_reducible refine q_Die___init__ ?_)
theorem m_Die (T : Txt K mg base) : Mak P w K mg base 1 "Die" (cA mg "Die") (sp_Die___init__ K mg) := by
  refine InitAt.mak T.m_Die T.i_Die (k := 0) sc_Die___init__ (by intro vs H Q E h; unfold sp_Die___init__ at h; split at h <;> first | rfl | exact h.elim) fun f cdv A outer s H vs Q E hr h => ?_
  refine ⟨_, (pss_one (ps_fld (pv 0) (pe_callTy call_tuple1A (by rfl) T.n_tuple (by decide +kernel) (pa_cons (pv 1) pa_nil)) rfl)), ?_⟩
  try simp only [cxOf_K, cxOf_K', cxOf_mg, cxOf_mg']
  unfold sp_Die___init__ at h
  split at h
  case h_2 => exact h.elim
  rename_i x k
  rw [show L2.start ["self", "parts"] [V.ref x, V.ref k] = [some (V.ref x), some (V.ref k)] from rfl]
  obtain ⟨dx, xs, hx, hS, q⟩ := h
  walk_at "sts"
  refine L_tuple1 hS fun l hl => ?_
  have s2 := same_new (o := .tup xs) hl
  walk_at "sts"
  refine L_sFldv (s2 _ _ hx) T.k_Die T.na_Die_ways (by decide) ?_
  have nl : l ≠ x := fun z => by rw [z, hx] at hl; cases hl
  exact q l _ (fun b o hb ne => by rw [upd_ne ne]; exact s2 _ _ hb) upd_same (by rw [upd_ne nl]; exact upd_same)
def sp_Die_is_told (K : PySem.W.Frag) (mg : Str → Option Value) : Sp := fun vs H Q _ => match vs with | [.ref a] => Q (.bl false) H | _ => False
theorem q_Die_is_told {H : Hp} {Q : VK} {E : XK} {a : Addr} (q : Q (.bl false) H) : sp_Die_is_told K mg [.ref a] H Q E := q
local macro_rules | `(tactic| walk_at "op") => `(tactic| with_reducible refine q_Die_is_told ?_)
theorem c_Die_is_told (T : Txt K mg base) : Met P w K mg base 1 (cA mg "Die") "is_told" (sp_Die_is_told K mg) := by
  refine MethAt.met T.k_Die T.d_Die_is_told (k := 0) sc_Die_is_told (by intro vs H Q E h; unfold sp_Die_is_told at h; split at h <;> first | rfl | exact h.elim) fun f cdv A outer s H vs Q E hr h => ?_
  refine ⟨_, (pss_one (ps_ret pe_bl)), ?_⟩
  try simp only [cxOf_K, cxOf_K', cxOf_mg, cxOf_mg']
  unfold sp_Die_is_told at h
  split at h
  case h_2 => exact h.elim
  rename_i a
  rw [show L2.start ["self"] [V.ref a] = [some (V.ref a)] from rfl]
  walk_at "sts"
  exact h
/-! trees of dice; what a node is by what it does -/
inductive Tr where
  | leaf (ks : List Int)
  | node (ps : List (Int × Tr))
def pick : List (Int × Addr) → Int → Option Addr
  | [], _ => none
  | w :: ws, x => if x < w.1 then some w.2 else pick ws (x - w.1)
/-- which lambda a throw comes to -/
def picks (ws : List (Int × Addr)) : V → Option Addr
  | .int x => if x < 0 then none else pick ws x
  | _ => none
/-- what may be thrown -/
def Thr (t : V) : Prop := (∃ x, t = .int x) ∨ (∃ b, t = .bl b) ∨ (∃ z, t = .str z) ∨ t = .non
def WayP (H : Hp) (u : V) (w : Int × Addr) : Prop := ∃ q, u = .ref q ∧ H q = some (.tup [.int w.1, .ref w.2])
theorem drop_at {α : Type} : ∀ {l : List α} {i : Nat} {x : α}, l[i]? = some x → l.drop i = x :: l.drop (i + 1)
  | [], _, _, h => by simp at h
  | _ :: _, 0, _, h => by cases h; rfl
  | _ :: l, i + 1, _, h => drop_at (l := l) (i := i) h
/-- a Told with these places -/
def TolA (mg : Str → Option Value) (ks : List Int) (v : V) (H : Hp) : Prop := ∃ a dx p, v = .ref a ∧ H a = some (.ins (cA mg "Told") dx [("places", .ref p)]) ∧ H p = some (.tup (ks.map V.int))
theorem TolA.ew {mg : Str → Option Value} {T : List TX} {W : Addr → Prop} {H H' : Hp} {ks : List Int} {v : V} (h : TolA mg ks v H) (e : Ew mg T W H H') : TolA mg ks v H' := by
  obtain ⟨a, dx, p, rfl, h1, h2⟩ := h
  exact ⟨a, dx, p, rfl, e.ins h1, e.tup h2⟩
theorem WayP.ew {mg : Str → Option Value} {T : List TX} {W : Addr → Prop} {H H' : Hp} {u : V} {w : Int × Addr} (h : WayP H u w) (e : Ew mg T W H H') : WayP H' u w := by
  obtain ⟨q, rfl, h⟩ := h
  exact ⟨q, rfl, e.tup h⟩
/-- lists that may change from H on, where those of W might -/
structure Vol (W W' : Addr → Prop) (H H1 : Hp) : Prop where
  sub : ∀ b, W b → W' b
  new : ∀ b, W' b → W b ∨ H b = none
  lst : ∀ b, W' b → ∃ xs, H1 b = some (.lst xs)
/-- a lambda that leads to what R tells -/
def Leads (K : PySem.W.Frag) (mg : Str → Option Value) (j : Nat) (W : Addr → Prop) (f : Addr) (H : Hp) (R : (Addr → Prop) → V → Hp → Prop) : Prop :=
  ∀ (W' : Addr → Prop) (H1 : Hp), Vol W W' H H1 → Eg K mg W' H H1 → Tb K mg H1 → ∀ Q : VK, (∀ x H2, Eg K mg No H1 H2 → R W' x H2 → Q x H2) → RunsC K mg j f [] H1 Q
/-- v is a node of the tree, at most d deep; its lambdas run at the level j; lists of W may change -/
def NodeAt (K : PySem.W.Frag) (mg : Str → Option Value) (j : Nat) : Nat → (Addr → Prop) → Tr → V → Hp → Prop
  | _, _, .leaf ks, v, H => TolA mg ks v H
  | 0, _, .node _, _, _ => False
  | d + 1, W, .node ps, v, H => ∃ a dx p us ws, v = .ref a ∧ H a = some (.ins (cA mg "Die") dx [("ways", .ref p)]) ∧ H p = some (.tup us) ∧ us.length ≤ 5000 ∧ Paired (WayP H) us ws ∧
      Paired (fun (w : Int × Addr) (y : Int × Tr) => w.1 = y.1 ∧ Leads K mg j W w.2 H fun W' x H2 => NodeAt K mg j d W' y.2 x H2) ws ps
theorem Leads.ew {K : PySem.W.Frag} {mg : Str → Option Value} {j : Nat} {W W' : Addr → Prop} {f : Addr} {H H' : Hp} {R : (Addr → Prop) → V → Hp → Prop} (h : Leads K mg j W f H R) (v : Vol W W' H H') (e : Eg K mg W' H H') : Leads K mg j W' f H' R := fun W2 H1 v2 e2 tb Q q =>
  h W2 H1 ⟨fun b hb => v2.sub b (v.sub b hb), fun b hb => (v2.new b hb).elim (v.new b) fun z => .inr (e.dm b z), v2.lst⟩ ((e.up v2.sub).trans e2) tb Q q
theorem NodeAt.ew {K : PySem.W.Frag} {mg : Str → Option Value} {j d : Nat} {W W' : Addr → Prop} {t : Tr} {x : V} {H H' : Hp} (h : NodeAt K mg j d W t x H) (v : Vol W W' H H') (e : Eg K mg W' H H') : NodeAt K mg j d W' t x H' := by
  match d, t, h with
  | 0, .leaf ks, h => exact TolA.ew h e
  | d + 1, .leaf ks, h => exact TolA.ew h e
  | 0, .node _, h => exact h.elim
  | d + 1, .node ps, h =>
    obtain ⟨a, dx, p, us, ws, rfl, h1, h2, h3, h4, h5⟩ := h
    exact ⟨a, dx, p, us, ws, rfl, e.ins h1, e.tup h2, h3, paired_imp2 (fun _ _ h => h.ew e) h4, paired_imp2 (fun _ _ h => ⟨h.1, h.2.ew v e⟩) h5⟩
theorem node_leaf {K : PySem.W.Frag} {mg : Str → Option Value} {j d : Nat} {W : Addr → Prop} {ks : List Int} {x : V} {H : Hp} (h : TolA mg ks x H) : NodeAt K mg j d W (.leaf ks) x H := by
  cases d <;> exact h
theorem leaf_node {K : PySem.W.Frag} {mg : Str → Option Value} {j d : Nat} {W : Addr → Prop} {ks : List Int} {x : V} {H : Hp} (h : NodeAt K mg j d W (.leaf ks) x H) : TolA mg ks x H := by
  cases d <;> exact h
theorem runsC_le {K : PySem.W.Frag} {mg : Str → Option Value} {k j : Nat} {f : Addr} {vs : List V} {H : Hp} {Q : VK} (h : RunsC K mg k f vs H Q) (hk : k ≤ j) : RunsC K mg j f vs H Q := fun P w base T => (h P w base T).le hk
theorem runsC_imp {K : PySem.W.Frag} {mg : Str → Option Value} {k : Nat} {f : Addr} {vs : List V} {H : Hp} {Q Q' : VK} (h : RunsC K mg k f vs H Q) (m : ∀ v H1, Q v H1 → Q' v H1) : RunsC K mg k f vs H Q' := fun P w base T => (h P w base T).imp m
theorem Leads.imp {K : PySem.W.Frag} {mg : Str → Option Value} {k j : Nat} {W : Addr → Prop} {f : Addr} {H : Hp} {R R' : (Addr → Prop) → V → Hp → Prop} (h : Leads K mg k W f H R) (hk : k ≤ j) (m : ∀ W' x H2, R W' x H2 → R' W' x H2) : Leads K mg j W f H R' := fun W' H1 v e tb Q q => runsC_le (h W' H1 v e tb Q fun x H2 e r => q x H2 e (m W' x H2 r)) hk
theorem NodeAt.le {K : PySem.W.Frag} {mg : Str → Option Value} {j j' : Nat} (hj : j ≤ j') : ∀ {d d' : Nat} {W : Addr → Prop} {t : Tr} {x : V} {H : Hp}, NodeAt K mg j d W t x H → d ≤ d' → NodeAt K mg j' d' W t x H
  | d, d', W, .leaf ks, x, H, h, _ => node_leaf (leaf_node h)
  | 0, _, _, .node _, _, _, h, _ => h.elim
  | d + 1, 0, _, .node _, _, _, _, hd => absurd hd (Nat.not_succ_le_zero _)
  | d + 1, d' + 1, W, .node ps, x, H, h, hd => by
    obtain ⟨a, dx, p, us, ws, rfl, h1, h2, h3, h4, h5⟩ := h
    exact ⟨a, dx, p, us, ws, rfl, h1, h2, h3, h4, paired_imp2 (fun _ _ h => ⟨h.1, h.2.imp hj fun W' x H2 r => NodeAt.le hj r (Nat.le_of_succ_le_succ hd)⟩) h5⟩
def Tr.dep : Tr → Nat → Prop
  | .leaf _, _ => True
  | .node _, 0 => False
  | .node _, _ + 1 => True
def sp_Die_after (j : Nat) (K : PySem.W.Frag) (mg : Str → Option Value) : Sp := fun vs H Q E => match vs with | [.ref a, t] => ∃ dx p us ws, H a = some (.ins (cA mg "Die") dx [("ways", .ref p)]) ∧ H p = some (.tup us) ∧ Paired (WayP H) us ws ∧ Thr t ∧ ((∃ f, picks ws t = some f ∧ RunsC K mg j f [] H Q) ∨ (picks ws t = none ∧ NoThr mg 0 H E)) | _ => False
theorem q_Die_after {j : Nat} {H : Hp} {Q : VK} {E : XK} {a : Addr} {t : V} (q : ∃ dx p us ws, H a = some (.ins (cA mg "Die") dx [("ways", .ref p)]) ∧ H p = some (.tup us) ∧ Paired (WayP H) us ws ∧ Thr t ∧ ((∃ f, picks ws t = some f ∧ RunsC K mg j f [] H Q) ∨ (picks ws t = none ∧ NoThr mg 0 H E))) : sp_Die_after j K mg [.ref a, t] H Q E := q
local macro_rules | `(tactic| walk_at "op") => `(tactic| with_reducible refine q_Die_after ?_)
theorem c_Die_after (T : Txt K mg base) (j : Nat) : MetN P w K mg base (j + 3) (cA mg "Die") "after" (sp_Die_after j K mg) := by
  refine MethAt.metN T.k_Die T.d_Die_after (k := j + 2) sc_Die_after (by intro vs H Q E h; unfold sp_Die_after at h; split at h <;> first | rfl | exact h.elim) fun f cdv A outer s H vs Q E hr h => ?_
  refine ⟨_, (pss_cons (ps_if (PW.pt (pw_or (pt_not (pt_val (pe_callB call_isi (by rfl) T.n_isinstance (by decide +kernel) (pa_cons (pv 1) (pa_cons (pe_ty "int" (by rfl) T.n_int (by decide +kernel)) pa_nil))))) (pw_or (pt_val (pe_callB call_isi (by rfl) T.n_isinstance (by decide +kernel) (pa_cons (pv 1) (pa_cons (pe_ty "bool" (by rfl) T.n_bool (by decide +kernel)) pa_nil)))) (pw_or1 (pt_cmpR op_ltA (pv 1) pe_int (nomark _))))))
    (pss_one (L2N.ps_raise rfl (L2N.takes_of rfl rfl rfl rfl) (pmkN_x (x_NoThrow T) T.o_NoThrow hr (by omega) (by rfl) (pa_cons pe_int pa_nil))))
    pss_nil)
    (pss_cons (ps_for (passes_of rfl) rfl (pi_tup (pe_fld (pv 0) rfl)) (pg_tup rfl (pgs_cons (pg_name (i := 2) sc_Die_after.nd rfl (.inl rfl)) (pgs_cons (pg_name (i := 3) sc_Die_after.nd rfl (.inl rfl)) pgs_nil)))
    (pss_cons (ps_if (pt_cmpR op_ltA (pv 1) (pv 2) (nomark _))
    (pss_one (ps_ret (pe_run0 (R := RunsC K mg (j)) (k := j) (i := 3) (fun _ _ _ _ h => h _ _ _ T) hr (by omega) rfl (by first | exact Or.inl rfl | exact Or.inr (Or.inl rfl) | exact Or.inr (Or.inr rfl)))))
    pss_nil)
    (pss_one (ps_set (i := 1) sc_Die_after.nd rfl (.inl rfl) (pe_op op_sub (pv 1) (pv 2))))))
    (pss_one (L2N.ps_raise rfl (L2N.takes_of rfl rfl rfl rfl) (pmkN_x (x_NoThrow T) T.o_NoThrow hr (by omega) (by rfl) (pa_cons pe_int pa_nil)))))), ?_⟩
  try simp only [cxOf_K, cxOf_K', cxOf_mg, cxOf_mg']
  unfold sp_Die_after at h
  split at h
  case h_2 => exact h.elim
  rename_i a t
  rw [show L2.start ["self", "throw", "many", "make"] [V.ref a, t] = [some (V.ref a), some (t), none, none] from rfl]
  obtain ⟨dx, p, us, ws, ha, hp, hP, ht, hq⟩ := h
  walk_at "sts"
  rcases ht with ⟨x, rfl⟩ | ⟨b, rfl⟩ | ⟨z, rfl⟩ | rfl
  · refine L_isi (.base (.int _)) (b := true) (by decide +kernel) ?_
    walk_at "sts"
    refine L_isi (.base (.int _)) (b := false) (by decide +kernel) ?_
    walk_at "sts"
    refine L_d (fun c => ?_) (fun c => ?_)
    · walk_at "sts"
      refine L_mkO ?_
      walk_at "sts"
      rcases hq with ⟨f, hf, _⟩ | ⟨_, hq⟩
      · have : picks ws (.int x) = none := if_pos c
        rw [this] at hf
        cases hf
      · exact q_noThrow hq
    · walk_at "sts"
      have hk0 : picks ws (.int x) = pick ws x := if_neg c
      rw [hk0] at hq
      refine L_fldv ha T.k_Die T.na_Die_ways rfl ?_
      refine ⟨p, rfl, ⟨_, .of hp⟩, ?_⟩
      refine f_it walk_tup (fun i σ' H' => H' = H ∧ ∃ (x' : Int) (v2 v3 : Option V), σ' = [some (.ref a), some (.int x'), v2, v3] ∧ pick ws x = pick (ws.drop i) x') ⟨rfl, _, _, _, rfl, by rw [List.drop_zero]⟩ (fun _ _ _ _ ⟨e, _⟩ => by rw [e]; exact .of hp) ?_ ?_
      · rintro i x1 σ' H1 H2 hi ⟨rfl, x', v2, v3, rfl, hk⟩ ⟨rfl, hx1⟩
        obtain ⟨w, hw, q, rfl, hq1⟩ := paired_nth hP hx1
        have hd : ws.drop i = w :: ws.drop (i + 1) := drop_at hw
        rw [hd] at hk
        refine L_gTup (.of hq1) rfl ?_
        walk_at "sts"
        refine L_d (fun c2 => ?_) (fun c2 => ?_)
        · walk_at "sts"
          rcases hq with ⟨f, hf, hr⟩ | ⟨hn, _⟩
          · rw [hf, pick, if_pos c2] at hk
            cases hk
            exact ⟨_, rfl, hr⟩
          · rw [hn, pick, if_pos c2] at hk
            cases hk
        · walk_at "sts"
          refine ⟨rfl, _, _, _, rfl, ?_⟩
          rw [hk, pick, if_neg c2]
      · rintro σ' H1 ⟨rfl, x', v2, v3, rfl, hk⟩
        rw [Paired.length hP, List.drop_length] at hk
        walk_at "sts"
        refine L_mkO ?_
        walk_at "sts"
        rcases hq with ⟨f, hf, _⟩ | ⟨_, hq⟩
        · rw [hf] at hk
          cases hk
        · exact q_noThrow hq
  · refine L_isi (.base (.bl _)) (b := true) (by decide +kernel) ?_
    walk_at "sts"
    refine L_isi (.base (.bl _)) (b := true) (by decide +kernel) ?_
    walk_at "sts"
    refine L_mkO ?_
    walk_at "sts"
    rcases hq with ⟨f, hf, _⟩ | ⟨_, hq⟩
    · cases hf
    · exact q_noThrow hq
  · refine L_isi (.base (.str _)) (b := false) (by decide +kernel) ?_
    walk_at "sts"
    refine L_mkO ?_
    walk_at "sts"
    rcases hq with ⟨f, hf, _⟩ | ⟨_, hq⟩
    · cases hf
    · exact q_noThrow hq
  · refine L_isi (.base .non) (b := false) (by decide +kernel) ?_
    walk_at "sts"
    refine L_mkO ?_
    walk_at "sts"
    rcases hq with ⟨f, hf, _⟩ | ⟨_, hq⟩
    · cases hf
    · exact q_noThrow hq
def sp_Die_sides (K : PySem.W.Frag) (mg : Str → Option Value) : Sp := fun vs H Q _ => match vs with | [.ref a] => ∃ dx p us ws, H a = some (.ins (cA mg "Die") dx [("ways", .ref p)]) ∧ H p = some (.tup us) ∧ Paired (WayP H) us ws ∧ us.length ≤ 5000 ∧ ∀ H', Same H H' → Q (.int (ws.map (·.1)).sum) H' | _ => False
theorem q_Die_sides {H : Hp} {Q : VK} {E : XK} {a : Addr} (q : ∃ dx p us ws, H a = some (.ins (cA mg "Die") dx [("ways", .ref p)]) ∧ H p = some (.tup us) ∧ Paired (WayP H) us ws ∧ us.length ≤ 5000 ∧ ∀ H', Same H H' → Q (.int (ws.map (·.1)).sum) H') : sp_Die_sides K mg [.ref a] H Q E := q
local macro_rules | `(tactic| walk_at "op") => `(tactic| with_reducible refine q_Die_sides ?_)
theorem c_Die_sides (T : Txt K mg base) : Met P w K mg base 1 (cA mg "Die") "sides" (sp_Die_sides K mg) := by
  refine MethAt.met T.k_Die T.d_Die_sides (k := 0) sc_Die_sides (by intro vs H Q E h; unfold sp_Die_sides at h; split at h <;> first | rfl | exact h.elim) fun f cdv A outer s H vs Q E hr h => ?_
  refine ⟨_, (pss_one (ps_ret (pe_callB (cr_sum rfl) (by rfl) T.n_sum (by decide +kernel) (pa_cons (pe_lc (own := [("many", 1), ("make", 2)]) (g := (gTup K 2 (gCons (gName 1) (gCons (gName 2) gNil)))) (tt := tYes) (te := (tVar 1)) rfl sc_Die_sides.nd (pi_tup (pe_fld (pv 0) rfl)) (blkOk_by (N := ["self", "many", "make"]) (sc := defScope s_Die_sides) (by decide +kernel)) (fun _ _ _ _ _ => by exact (pg_tup rfl (pgs_cons (pg_name (i := 1) sc_Die_sides.nd rfl (.inl rfl)) (pgs_cons (pg_name (i := 2) sc_Die_sides.nd rfl (.inl rfl)) pgs_nil)))) (fun _ _ _ _ _ => pts_nil) (fun _ _ _ _ _ => by exact (pv 1))) pa_nil)))), ?_⟩
  try simp only [cxOf_K, cxOf_K', cxOf_mg, cxOf_mg']
  unfold sp_Die_sides at h
  split at h
  case h_2 => exact h.elim
  rename_i a
  rw [show L2.start ["self", "many", "make"] [V.ref a] = [some (V.ref a), none, none] from rfl]
  obtain ⟨dx, p, us, ws, ha, hp, hP, hl, q⟩ := h
  walk_at "sts"
  refine L_fldv ha T.k_Die T.na_Die_ways rfl ?_
  refine ⟨p, rfl, ⟨_, .of hp⟩, ?_⟩
  refine lc_fm walk_tup (fun i => ws[i]?.map fun w => V.int w.1) (by omega) (fun H' e => .of (e _ _ hp)) ?_ ?_
  · rintro j x1 Ha Hb R R' hj sm ⟨rfl, hx1⟩ q1 q2
    obtain ⟨w, hw, q0, rfl, hq⟩ := paired_nth hP hx1
    refine L_gTup (.of (sm _ _ hq)) rfl ?_
    walk_at "sts"
    refine ⟨rfl, ?_⟩
    walk_at "sts"
    exact q1 _ _ (by rw [hw]; rfl) (.refl _)
  intro p1 H1 hp1 s1 e1
  rw [Paired.length hP, fm_get (fun w : Int × Addr => V.int w.1) ws] at e1
  have e2 : H1 p1 = some (.lst ((ws.map (·.1)).map V.int)) := by rw [e1, List.map_map]; rfl
  walk_at "sts"
  refine L_sum (.of e2) ?_
  exact q _ s1
/-- a part: so many sides, a node -/
def PartN (K : PySem.W.Frag) (mg : Str → Option Value) (j d : Nat) (W : Addr → Prop) (H : Hp) (u : V) (y : Int × Tr) : Prop := ∃ q x, u = .ref q ∧ H q = some (.tup [.int y.1, x]) ∧ NodeAt K mg j d W y.2 x H
theorem vol_same {W : Addr → Prop} {H H1 : Hp} (h : ∀ b, W b → ∃ xs, H1 b = some (.lst xs)) : Vol W W H H1 := ⟨fun _ h => h, fun _ h => .inl h, h⟩
def sp_Die_parts (j : Nat) (K : PySem.W.Frag) (mg : Str → Option Value) : Sp := fun vs H Q _ => match vs with | [.ref a] => ∃ (d : Nat) (W : Addr → Prop) (ps : List (Int × Tr)), NodeAt K mg j (d + 1) W (.node ps) (.ref a) H ∧ Tb K mg H ∧ (∀ b, W b → ∃ xs, H b = some (.lst xs)) ∧ ∀ p1 H' vs, H p1 = none → Eg K mg No H H' → H' p1 = some (.lst vs) → (∀ b, Or1 W p1 b → ∃ xs, H' b = some (.lst xs)) → Paired (PartN K mg j d (Or1 W p1) H') vs ps → Q (.ref p1) H' | _ => False
theorem q_Die_parts {j : Nat} {H : Hp} {Q : VK} {E : XK} {a : Addr} (q : ∃ (d : Nat) (W : Addr → Prop) (ps : List (Int × Tr)), NodeAt K mg j (d + 1) W (.node ps) (.ref a) H ∧ Tb K mg H ∧ (∀ b, W b → ∃ xs, H b = some (.lst xs)) ∧ ∀ p1 H' vs, H p1 = none → Eg K mg No H H' → H' p1 = some (.lst vs) → (∀ b, Or1 W p1 b → ∃ xs, H' b = some (.lst xs)) → Paired (PartN K mg j d (Or1 W p1) H') vs ps → Q (.ref p1) H') : sp_Die_parts j K mg [.ref a] H Q E := q
local macro_rules | `(tactic| walk_at "op") => `(tactic| with_reducible refine q_Die_parts ?_)
theorem c_Die_parts (T : Txt K mg base) (j : Nat) : Met P w K mg base (j + 1) (cA mg "Die") "parts" (sp_Die_parts j K mg) := by
  refine MethAt.met T.k_Die T.d_Die_parts (k := j + 0) sc_Die_parts (by intro vs H Q E h; unfold sp_Die_parts at h; split at h <;> first | rfl | exact h.elim) fun f cdv A outer s H vs Q E hr h => ?_
  refine ⟨_, (pss_one (ps_ret (pe_lc (own := [("many", 1), ("make", 2)]) (g := (gTup K 2 (gCons (gName 1) (gCons (gName 2) gNil)))) (tt := tYes) (te := (tTup (tCons (tVar 1) (tCons (tRun0 (RunsC K mg (j)) 2) tNil)))) rfl sc_Die_parts.nd (pi_tup (pe_fld (pv 0) rfl)) (blkOk_by (N := ["self", "many", "make"]) (sc := defScope s_Die_parts) (by decide +kernel)) (fun _ _ _ _ _ => by exact (pg_tup rfl (pgs_cons (pg_name (i := 1) sc_Die_parts.nd rfl (.inl rfl)) (pgs_cons (pg_name (i := 2) sc_Die_parts.nd rfl (.inl rfl)) pgs_nil)))) (fun _ _ _ _ _ => pts_nil) (fun _ _ _ _ _ => by exact (pe_tup (pa_cons (pv 1) (pa_cons (pe_run0 (R := RunsC K mg (j)) (k := j) (i := 2) (fun _ _ _ _ h => h _ _ _ T) hr (by omega) rfl (by first | exact Or.inl rfl | exact Or.inr (Or.inl rfl) | exact Or.inr (Or.inr rfl))) pa_nil))))))), ?_⟩
  try simp only [cxOf_K, cxOf_K', cxOf_mg, cxOf_mg']
  unfold sp_Die_parts at h
  split at h
  case h_2 => exact h.elim
  rename_i a
  rw [show L2.start ["self", "many", "make"] [V.ref a] = [some (V.ref a), none, none] from rfl]
  obtain ⟨d, W, ps, hn, hT, hW, q⟩ := h
  obtain ⟨a', dx, p, us, ws, ea, ha, hp, hl, hP, hR⟩ := hn
  cases ea
  walk_at "sts"
  refine L_fldv ha T.k_Die T.na_Die_ways rfl ?_
  refine ⟨p, rfl, ⟨_, .of hp⟩, ?_⟩
  refine lc_ew (mg := mg) (T := tabsX K mg) (W := W) (fun W' H1 u y => PartN K mg j d W' H1 u y) (fun W' H H' v y hw e h => ?_) hW walk_tup ps (by rw [← Paired.length hR, ← Paired.length hP]) (by omega) (fun H' e => .of (e.tup hp)) ?_ ?_
  · obtain ⟨q, x, rfl, h1, h2⟩ := h
    exact ⟨q, x, rfl, e.tup h1, h2.ew (vol_same hw) e⟩
  · rintro D i x1 Ha Hb R R' hD hi ev hw ⟨rfl, hx1⟩ q1
    obtain ⟨w, hw1, q0, rfl, hq⟩ := paired_nth hP hx1
    obtain ⟨y, hy, hwy, hL⟩ := paired_nth hR hw1
    refine L_gTup (.of (ev.tup hq)) rfl ?_
    walk_at "sts"
    refine ⟨rfl, ?_⟩
    walk_at "sts"
    refine ⟨w.2, rfl, hL (Or1 W D) _ ⟨fun b h => .inl h, fun b h => h.imp id fun z => by rw [z]; exact hD, hw⟩ ev.no (ev.tb hT) _ fun x H2 ev2 hx2 => ?_⟩
    walk_at "sts"
    walk_at "nw"
    rename_i p5 hp5 H5 s5 e5
    refine q1 _ y _ hy (ev2.trans (.same s5)) ⟨p5, x, rfl, by rw [← hwy]; exact e5, hx2.ew (vol_same fun b hb => ?_) (.same s5)⟩
    obtain ⟨xs, hxs⟩ := hw b hb
    exact ⟨xs, s5 _ _ (ev2.lst0 hxs)⟩
  intro p1 H1 vs hp1 ev1 e1 hw hV
  walk_at "sts"
  exact q p1 H1 vs hp1 ev1 e1 hw hV
def sp_gone_on (K : PySem.W.Frag) (mg : Str → Option Value) : Sp := fun vs H Q _ => match vs with | [.ref m, .ref g] => Tb K mg H ∧ ∀ f H', Eg K mg No H H' → LamAt_gone_on_l0 K mg [.ref g, .ref m] f H H' → Q (.ref f) H' | _ => False
theorem q_gone_on {H : Hp} {Q : VK} {E : XK} {m : Addr} {g : Addr} (q : Tb K mg H ∧ ∀ f H', Eg K mg No H H' → LamAt_gone_on_l0 K mg [.ref g, .ref m] f H H' → Q (.ref f) H') : sp_gone_on K mg [.ref m, .ref g] H Q E := q
local macro_rules | `(tactic| walk_at "op") => `(tactic| with_reducible refine q_gone_on ?_)
theorem c_gone_on (T : Txt K mg base) : Cal P w K mg base 1 "gone_on" (sp_gone_on K mg) := by
  refine T.d_gone_on.calT (k := 0) sc_gone_on (by intro vs H Q E h; unfold sp_gone_on at h; split at h <;> first | rfl | exact h.elim) fun f A outer s H vs Q E hr h => ?_
  refine ⟨_, (psf_ret [("make", 0), ("go", 1)] (show ∀ a ∈ ([("make", 0), ("go", 1)] : List (Str × Nat)), (defScope s_gone_on).names.lookup a.1 = some .cell ∧ (["make", "go"] : List Str)[a.2]? = some a.1 from by decide +kernel) (fun _ _ h => cab_ok h) (pe_lamX (T := tabsX K mg) (q := "gone_on.<locals>.<lambda>") (inner := none) s_gone_on e_gone_on_l0 (by rfl) T.tb_gone_on rfl (show ("gone_on" : Str) ++ ".<locals>." ++ "<lambda>" = ("gone_on.<locals>.<lambda>" : Str) from by decide +kernel) (by unfold tabsX; simp) T.hu_gone_on (by rfl) (freeIn_ok (sc := defScope s_gone_on) (lsc := lamS s_gone_on e_gone_on_l0) (by decide +kernel)))), ?_⟩
  try simp only [cxOf_K, cxOf_K', cxOf_mg, cxOf_mg']
  unfold sp_gone_on at h
  split at h
  case h_2 => exact h.elim
  rename_i m g
  rw [show L2.start ["make", "go"] [V.ref m, V.ref g] = [some (V.ref m), some (V.ref g)] from rfl]
  obtain ⟨hT, q⟩ := h
  walk_at "sts"
  refine ⟨hT, fun f c' H1 ex T1 hf e1 e2 => ?_⟩
  refine ⟨[("go", 1), ("make", 0)], [.ref g, .ref m], by simp, by decide, rfl, fun H' inj sm hat => ?_⟩
  have hn := held_new (names := (lamS s_gone_on e_gone_on_l0).names) (H0 := H1) (H := H') (fr := ["go", "make"]) (ws := [.ref g, .ref m]) inj (frIs_ok (by decide +kernel)) rfl fun i y w hi hw => by
    match i, hi, hw with
    | 0, hi, hw => cases hi; cases hw; exact hat 0 _ _ rfl rfl
    | 1, hi, hw => cases hi; cases hw; exact hat 1 _ _ rfl rfl
  exact q f H' (ex.trans (.same sm)) ⟨c', _, sm _ _ e1, e2.ext sm, hn.1, fun y a e => ex.dm a (hn.2 y a e)⟩
theorem lamN_old {mg : Str → Option Value} {T : List TX} {q : Str} {params : Arguments} {body : Expr} {scope : Scope} {fr : List Str} {inner : Option Str} {ws : List V} {f : Addr} {H0 H1 H : Hp} (L : LamN mg T q params body scope fr inner ws f H1 H) (h : ∀ b, H1 b = none → H0 b = none) : LamN mg T q params body scope fr inner ws f H0 H := by
  obtain ⟨c, cl, h1, h2, C, n⟩ := L
  exact ⟨c, cl, h1, h2, C, fun y a e => h a (n y a e)⟩
/-- a die whose ways go on by g -/
def DieOn (K : PySem.W.Frag) (mg : Str → Option Value) (j d : Nat) (W : Addr → Prop) (ps : List (Int × Tr)) (g : Addr) (H0 : Hp) (x : V) (H : Hp) : Prop := ∃ a dx p us ws, x = .ref a ∧ H a = some (.ins (cA mg "Die") dx [("ways", .ref p)]) ∧ H p = some (.tup us) ∧ us.length ≤ 5000 ∧ Paired (WayP H) us ws ∧
  Paired (fun (w : Int × Addr) (y : Int × Tr) => w.1 = y.1 ∧ ∃ m, LamAt_gone_on_l0 K mg [.ref g, .ref m] w.2 H0 H ∧ Leads K mg j W m H0 fun W' x H2 => NodeAt K mg j d W' y.2 x H2) ws ps
/-- a way on: so many sides, a lambda that goes on -/
def WayG (K : PySem.W.Frag) (mg : Str → Option Value) (g : Addr) (H0 : Hp) (H : Hp) (u : V) (w : Int × Addr) : Prop := ∃ q f, u = .ref q ∧ H q = some (.tup [.int w.1, .ref f]) ∧ LamAt_gone_on_l0 K mg [.ref g, .ref w.2] f H0 H
theorem WayG.ew {K : PySem.W.Frag} {mg : Str → Option Value} {g : Addr} {H0 H H' : Hp} {W : Addr → Prop} {u : V} {w : Int × Addr} (h : WayG K mg g H0 H u w) (e : Eg K mg W H H') : WayG K mg g H0 H' u w := by
  obtain ⟨q, f, rfl, h1, h2⟩ := h
  exact ⟨q, f, rfl, e.tup h1, h2.ew e (.inl rfl)⟩
theorem paired_trans {α β γ : Type} {F : α → β → Prop} {G : β → γ → Prop} {R : α → γ → Prop} (h : ∀ a b c, F a b → G b c → R a c) : ∀ {xs : List α} {ys : List β} {zs : List γ}, Paired F xs ys → Paired G ys zs → Paired R xs zs
  | _, _, _, .nil, .nil => .nil
  | _, _, _, .cons a t, .cons b u => .cons (h _ _ _ a b) (paired_trans h t u)
theorem paired_swap {α β : Type} {F : α → β → Prop} : ∀ {xs : List α} {ys : List β}, Paired F xs ys → Paired (fun b a => F a b) ys xs
  | _, _, .nil => .nil
  | _, _, .cons a t => .cons a (paired_swap t)
theorem paired_mapR {α β γ : Type} {F : α → γ → Prop} (g : β → γ) : ∀ {xs : List α} {ys : List β}, Paired (fun a b => F a (g b)) xs ys → Paired F xs (ys.map g)
  | _, _, .nil => .nil
  | _, _, .cons a t => .cons a (paired_mapR g t)
theorem paired_memR {α β : Type} {F G : α → β → Prop} : ∀ {xs : List α} {ys : List β}, (∀ a b, b ∈ ys → F a b → G a b) → Paired F xs ys → Paired G xs ys
  | _, _, _, .nil => .nil
  | _, _, h, .cons a t => .cons (h _ _ (List.mem_cons_self ..) a) (paired_memR (fun a b hb => h a b (List.mem_cons_of_mem _ hb)) t)
/-- a tuple of what the pairs tell -/
theorem paired_exs {α β γ : Type} {R : α → γ → β → Prop} : ∀ {us : List α} {ps : List β}, Paired (fun u p => ∃ w, R u w p) us ps → ∃ ws : List γ, Paired (fun u w => ∃ p, R u w p) us ws ∧ Paired (fun w p => ∃ u, R u w p) ws ps
  | _, _, .nil => ⟨[], .nil, .nil⟩
  | _, _, .cons a t => by
    obtain ⟨w, hw⟩ := a
    obtain ⟨ws, h1, h2⟩ := paired_exs t
    exact ⟨w :: ws, .cons ⟨_, hw⟩ h1, .cons ⟨_, hw⟩ h2⟩
def sp_behind (j : Nat) (K : PySem.W.Frag) (mg : Str → Option Value) : Sp := fun vs H Q _ => match vs with | [v, .ref g] => ∃ (d : Nat) (W : Addr → Prop) (t : Tr), NodeAt K mg j d W t v H ∧ Tb K mg H ∧ (∀ b, W b → ∃ xs, H b = some (.lst xs)) ∧ FnC g H ∧ (match t with | .leaf ks => ∀ p, H p = some (.tup (ks.map V.int)) → RunsC K mg j g [.ref p] H Q | .node ps => ∀ x H', Eg K mg No H H' → DieOn K mg j (d - 1) W ps g H x H' → Q x H') | _ => False
theorem q_behind {j : Nat} {H : Hp} {Q : VK} {E : XK} {v : V} {g : Addr} (q : ∃ (d : Nat) (W : Addr → Prop) (t : Tr), NodeAt K mg j d W t v H ∧ Tb K mg H ∧ (∀ b, W b → ∃ xs, H b = some (.lst xs)) ∧ FnC g H ∧ (match t with | .leaf ks => ∀ p, H p = some (.tup (ks.map V.int)) → RunsC K mg j g [.ref p] H Q | .node ps => ∀ x H', Eg K mg No H H' → DieOn K mg j (d - 1) W ps g H x H' → Q x H')) : sp_behind j K mg [v, .ref g] H Q E := q
local macro_rules | `(tactic| walk_at "op") => `(tactic| with_reducible refine q_behind ?_)
theorem c_behind (T : Txt K mg base) (j : Nat) : Cal P w K mg base (j + 3) "behind" (sp_behind j K mg) := by
  refine T.d_behind.cal (k := j + 2) sc_behind (by intro vs H Q E h; unfold sp_behind at h; split at h <;> first | rfl | exact h.elim) fun f cdv A outer s H vs Q E hr h => ?_
  refine ⟨_, (pss_cons (ps_if (pt_val (PE.or (pe_mt0 (c_Told_is_told T) hr (by omega) (pv 0)) (pe_mt0 (c_Die_is_told T) hr (by omega) (pv 0))))
    (pss_one (ps_ret (pe_run1 (R := RunsC K mg (j)) (k := j) (i := 1) (fun _ _ _ _ h => h _ _ _ T) hr (by omega) rfl (by first | exact Or.inl rfl | exact Or.inr (Or.inl rfl) | exact Or.inr (Or.inr rfl)) (pa_cons (pe_mt0 (c_Told_kept T) hr (by omega) (pv 0)) pa_nil))))
    pss_nil)
    (pss_one (ps_ret (pe_mk (m_Die T) hr (by omega) (by rfl) (pa_cons (pe_lc (own := [("many", 2), ("make", 3)]) (g := (gTup K 2 (gCons (gName 2) (gCons (gName 3) gNil)))) (tt := tYes) (te := (tTup (tCons (tVar 2) (tCons (tCall (sp_gone_on K mg) [] E0 (tCons (tVar 3) (tCons (tVar 1) tNil))) tNil)))) rfl sc_behind.nd (pi_tup (pe_fld (pv 0) rfl)) (blkOk_by (N := ["node", "go", "many", "make"]) (sc := defScope s_behind) (by decide +kernel)) (fun _ _ _ _ _ => by exact (pg_tup rfl (pgs_cons (pg_name (i := 2) sc_behind.nd rfl (.inl rfl)) (pgs_cons (pg_name (i := 3) sc_behind.nd rfl (.inl rfl)) pgs_nil)))) (fun _ _ _ _ _ => pts_nil) (fun _ _ _ _ _ => by exact (pe_tup (pa_cons (pv 2) (pa_cons (pe_c (c_gone_on T) hr (by omega) (by rfl) (pa_cons (pv 3) (pa_cons (pv 1) pa_nil))) pa_nil))))) pa_nil))))), ?_⟩
  try simp only [cxOf_K, cxOf_K', cxOf_mg, cxOf_mg']
  unfold sp_behind at h
  split at h
  case h_2 => exact h.elim
  rename_i v g
  rw [show L2.start ["node", "go", "many", "make"] [v, V.ref g] = [some (v), some (V.ref g), none, none] from rfl]
  obtain ⟨d, W, t, hn, hT, hW, hg, q⟩ := h
  match t, hn, q with
  | .leaf ks, hn, q =>
    obtain ⟨a, dx, p, rfl, h1, h2⟩ := leaf_node hn
    walk_at "sts"
    refine L_orl ?_
    walk_at "sts"
    refine L_methv h1 rfl ?_
    walk_at "sts"
    refine ⟨g, rfl, hg, ?_⟩
    walk_at "sts"
    refine L_methv h1 rfl ?_
    walk_at "sts"
    refine ⟨dx, p, h1, ?_⟩
    walk_at "sts"
    exact q p h2
  | .node ps, hn, q =>
    cases d with
    | zero => exact hn.elim
    | succ d =>
    obtain ⟨a, dx, p, us, ws, rfl, h1, h2, h3, h4, h5⟩ := hn
    walk_at "sts"
    refine L_orr ?_
    walk_at "sts"
    refine L_methv h1 rfl ?_
    walk_at "sts"
    refine L_fldv h1 T.k_Die T.na_Die_ways rfl ?_
    refine ⟨p, rfl, ⟨_, .of h2⟩, ?_⟩
    refine lc_ew (mg := mg) (T := tabsX K mg) (W := W) (fun _ H1 u w => WayG K mg g H H1 u w) (fun W' H H' v w _ e h => h.ew e) hW walk_tup ws (Paired.length h4).symm (by omega) (fun H' e => .of (e.tup h2)) ?_ ?_
    · rintro D i x1 Ha Hb R R' hD hi ev hw ⟨rfl, hx1⟩ q1
      obtain ⟨w, hw1, q0, rfl, hq⟩ := paired_nth h4 hx1
      refine L_gTup (.of (ev.tup hq)) rfl ?_
      walk_at "sts"
      refine ⟨rfl, ?_⟩
      walk_at "sts"
      refine ⟨ev.tb hT, fun f Hc evf hf => ?_⟩
      walk_at "sts"
      walk_at "nw"
      rename_i p5 hp5 H5 s5 e5
      exact q1 _ w _ hw1 (evf.trans (.same s5)) ⟨p5, f, rfl, e5, lamN_old (hf.ew (.same s5 : Eg K mg No _ _) (.inl rfl)) ev.dm⟩
    intro p1 H1 vs hp1 ev1 e1 hw hV
    walk_at "sts"
    intro y dy ny nd ne
    have s1 := same_made (C := cA mg "Die") ny nd ne
    refine ⟨dy, vs, upd_same, .of (s1 _ _ e1), fun p2 H2 keep hy hp2 => ⟨rfl, ?_⟩⟩
    have s2 : Same H1 H2 := fun b o hb => keep b o (s1 _ _ hb) fun z => by rw [z, ny] at hb; cases hb
    have ev2 : Eg K mg No H H2 := ev1.trans (.same s2)
    obtain ⟨fs, f1, f2⟩ := paired_exs (R := fun (u : V) (f : Int × Addr) (w : Int × Addr) => ∃ q, f.1 = w.1 ∧ u = .ref q ∧ H2 q = some (.tup [.int w.1, .ref f.2]) ∧ LamAt_gone_on_l0 K mg [.ref g, .ref w.2] f.2 H H2) (paired_imp2 (fun u w h => by
      obtain ⟨q, f, rfl, a1, a2⟩ := h.ew (.same s2 : Eg K mg No _ _)
      exact ⟨(w.1, f), q, rfl, rfl, a1, a2⟩) hV)
    have hl : vs.length ≤ 5000 := by rw [Paired.length hV, ← Paired.length h4]; exact h3
    exact q _ _ ev2 ⟨y, dy, p2, vs, fs, rfl, hy, hp2, hl, paired_imp2 (fun u f ⟨w, q, a0, a1, a2, a3⟩ => ⟨q, a1, by rw [a0]; exact a2⟩) f1, paired_trans (fun f w y ⟨u, q, a0, a1, a2, a3⟩ b => ⟨a0.trans b.1, w.2, a3, b.2⟩) f2 h5⟩
def sp_gone_on_l0 (j : Nat) (K : PySem.W.Frag) (mg : Str → Option Value) : List V → List V → Hp → VK → Prop := fun ws vs H Q => match ws, vs with | [.ref g, .ref m], [] => RunsC K mg j m [] H fun x H1 => sp_behind j K mg [x, .ref g] H1 Q E0 | _, _ => False
theorem nsc_gone_on_l0 : NScope ["go", "make"] [] ["go", "make"] (lamS s_gone_on e_gone_on_l0) := nscope_by (by decide +kernel)
theorem c_gone_on_l0 (T : Txt K mg base) (j : Nat) : LOkP P w K mg base (tabsX K mg) (j + 4) "gone_on.<locals>.<lambda>" (lamP s_gone_on e_gone_on_l0) (lamB e_gone_on_l0) (lamS s_gone_on e_gone_on_l0) ["go", "make"] none (sp_gone_on_l0 j K mg) := by
  refine lokP_of (N := ["go", "make"]) (ps := []) (k := j + 3) nsc_gone_on_l0 (by intro cl c pm ctv us hl; match us, hl with | [], _ => rfl) (by intro ws vs H Q h; unfold sp_gone_on_l0 at h; split at h <;> first | rfl | exact h.elim) fun f c cl A outer s H ws vs Q hr len hin h => ?_
  refine ⟨_, (pe_c (c_behind T (j)) hr (by omega) (by rfl) (pa_cons (pe_run0 (R := RunsC K mg (j)) (k := j) (i := 1) (fun _ _ _ _ h => h _ _ _ T) hr (by omega) rfl (by first | exact Or.inl rfl | exact Or.inr (Or.inl rfl) | exact Or.inr (Or.inr rfl))) (pa_cons (pv 0) pa_nil))), ?_⟩
  try simp only [ncx_K, ncx_mg]
  unfold sp_gone_on_l0 at h
  split at h
  case h_2 => exact h.elim
  rename_i g m
  rw [show startF ["go", "make"] [] ([V.ref g, V.ref m].map some) = [some (V.ref g), some (V.ref m)] from rfl]
  walk_at "sts"
  refine ⟨m, rfl, runsC_imp h fun x H1 h => ?_⟩
  walk_at "sts"
  exact h
/-- the tree, gone on at each leaf -/
def Tr.bind (gt : List Int → Tr) : Nat → Tr → Tr
  | _, .leaf ks => gt ks
  | 0, .node _ => .node []
  | d + 1, .node ps => .node (ps.map fun y => (y.1, Tr.bind gt d y.2))
/-- each leaf is of A -/
def Tr.all (A : List Int → Prop) : Nat → Tr → Prop
  | _, .leaf ks => A ks
  | 0, .node _ => False
  | d + 1, .node ps => ∀ y ∈ ps, Tr.all A d y.2
/-- what g goes on to -/
def Goes (K : PySem.W.Frag) (mg : Str → Option Value) (j : Nat) (W : Addr → Prop) (g : Addr) (H : Hp) (A : List Int → Prop) (dg : Nat) (gt : List Int → Tr) : Prop :=
  ∀ (W' : Addr → Prop) (H1 : Hp), Vol W W' H H1 → Eg K mg W' H H1 → Tb K mg H1 → FnC g H1 ∧ ∀ ks p, A ks → H1 p = some (.tup (ks.map V.int)) → ∀ Q : VK, (∀ x H2, Eg K mg No H1 H2 → NodeAt K mg j dg W' (gt ks) x H2 → Q x H2) → RunsC K mg j g [.ref p] H1 Q
theorem Goes.ew {K : PySem.W.Frag} {mg : Str → Option Value} {j : Nat} {W W' : Addr → Prop} {g : Addr} {H H' : Hp} {A : List Int → Prop} {dg : Nat} {gt : List Int → Tr} (h : Goes K mg j W g H A dg gt) (v : Vol W W' H H') (e : Eg K mg W' H H') : Goes K mg j W' g H' A dg gt := fun W2 H1 v2 e2 tb =>
  h W2 H1 ⟨fun b hb => v2.sub b (v.sub b hb), fun b hb => (v2.new b hb).elim (v.new b) fun z => .inr (e.dm b z), v2.lst⟩ ((e.up v2.sub).trans e2) tb
theorem Vol.trans {W W' W2 : Addr → Prop} {H H' H1 : Hp} (v : Vol W W' H H') (v2 : Vol W' W2 H' H1) (dm : ∀ b, H' b = none → H b = none) : Vol W W2 H H1 := ⟨fun b hb => v2.sub b (v.sub b hb), fun b hb => (v2.new b hb).elim (v.new b) fun z => .inr (dm b z), v2.lst⟩
theorem goes_same {K : PySem.W.Frag} {mg : Str → Option Value} {W : Addr → Prop} {H H1 H' : Hp} (h : ∀ b, W b → ∃ xs, H b = some (.lst xs)) (e : Eg K mg No H H') : ∀ b, W b → ∃ xs, H' b = some (.lst xs) := fun b hb => by
  obtain ⟨xs, hx⟩ := h b hb
  exact ⟨xs, e.lst0 hx⟩
/-- a die that goes on is the tree's, gone on: its lambdas lead there -/
theorem gone_leads {K : PySem.W.Frag} {mg : Str → Option Value} {j dg : Nat} {g : Addr} {A : List Int → Prop} {gt : List Int → Tr} : ∀ (d : Nat) {W : Addr → Prop} {t : Tr} {H0 H : Hp} {f m : Addr}, LamAt_gone_on_l0 K mg [.ref g, .ref m] f H0 H → Leads K mg j W m H0 (fun W' x H2 => NodeAt K mg j d W' t x H2) →
    Goes K mg j W g H0 A dg gt → Tr.all A d t → Eg K mg W H0 H → Leads K mg (j + 4) W f H fun W' x H2 => NodeAt K mg (j + 4) (d + dg) W' (Tr.bind gt d t) x H2 := by
  intro d
  induction d with
  | zero =>
    intro W t H0 H f m hf hm hg hA e W' H1 v e1 tb Q q P w base T
    refine LamN.run (hf.ew e1 (.inl rfl)) (c_gone_on_l0 T j) tb ((e.up v.sub).trans e1) (.inl rfl) fun Hd Q' ed tbd sub keep hq => ?_
    have lsd : ∀ b, W' b → ∃ xs, Hd b = some (.lst xs) := fun b hb => by
      obtain ⟨xs, hx⟩ := v.lst b hb
      exact ⟨xs, keep _ _ hx fun _ z => nomatch z⟩
    have v0 : Vol W W' H0 Hd := ⟨v.sub, fun b hb => (v.new b hb).imp id (e.dm b), lsd⟩
    refine hm W' Hd v0 ed tbd _ fun x H2 e2 hx => ?_
    have ls2 := goes_same (H1 := Hd) lsd e2
    have v2 : Vol W' W' Hd H2 := vol_same ls2
    have hg2 := (hg.ew v0 ed).ew v2 e2.no W' H2 (vol_same ls2) .refl (e2.tb tbd)
    refine ⟨0, W', t, hx, e2.tb tbd, ls2, hg2.1, ?_⟩
    match t, hx, hA with
    | .leaf ks, hx, hA =>
      exact fun p hp => hg2.2 ks p hA hp Q' fun x3 H3 e3 hx3 => hq x3 H3 fun H4 s4 eb => q x3 H4 (eb (e2.trans e3)) ((hx3.ew (vol_same (goes_same (H1 := Hd) (goes_same (H1 := Hd) ls2 e3) (.same s4 : Eg K mg No H3 H4))) (.same s4)).le (Nat.le_add_right ..) (Nat.le_add_left ..))
    | .node ps, hx, hA => exact hx.elim
  | succ d ih =>
    intro W t H0 H f m hf hm hg hA e W' H1 v e1 tb Q q P w base T
    refine LamN.run (hf.ew e1 (.inl rfl)) (c_gone_on_l0 T j) tb ((e.up v.sub).trans e1) (.inl rfl) fun Hd Q' ed tbd sub keep hq => ?_
    have lsd : ∀ b, W' b → ∃ xs, Hd b = some (.lst xs) := fun b hb => by
      obtain ⟨xs, hx⟩ := v.lst b hb
      exact ⟨xs, keep _ _ hx fun _ z => nomatch z⟩
    have v0 : Vol W W' H0 Hd := ⟨v.sub, fun b hb => (v.new b hb).imp id (e.dm b), lsd⟩
    refine hm W' Hd v0 ed tbd _ fun x H2 e2 hx => ?_
    have ls2 := goes_same (H1 := Hd) lsd e2
    have v2 : Vol W' W' Hd H2 := vol_same ls2
    have hgW := (hg.ew v0 ed).ew v2 e2.no
    have hg2 := hgW W' H2 (vol_same ls2) .refl (e2.tb tbd)
    refine ⟨d + 1, W', t, hx, e2.tb tbd, ls2, hg2.1, ?_⟩
    match t, hx, hA with
    | .leaf ks, hx, hA =>
      exact fun p hp => hg2.2 ks p hA hp Q' fun x3 H3 e3 hx3 => hq x3 H3 fun H4 s4 eb => q x3 H4 (eb (e2.trans e3)) ((hx3.ew (vol_same (goes_same (H1 := Hd) (goes_same (H1 := Hd) ls2 e3) (.same s4 : Eg K mg No H3 H4))) (.same s4)).le (Nat.le_add_right ..) (Nat.le_add_left ..))
    | .node ps, hx, hA =>
      intro x3 H3 e3 hD
      refine hq x3 H3 fun H4 s4 eb => q x3 H4 (eb (e2.trans e3)) ?_
      obtain ⟨a, dx, p, us, ws, rfl, a1, a2, a3, a4, a5⟩ := hD
      have ls4 := goes_same (H1 := Hd) (goes_same (H1 := Hd) ls2 e3) (.same s4 : Eg K mg No H3 H4)
      have s4' : Eg K mg W' H3 H4 := .same s4
      rw [show d + 1 + dg = d + dg + 1 by omega]
      refine ⟨a, dx, p, us, ws, rfl, s4 _ _ a1, s4 _ _ a2, a3, paired_imp2 (fun _ _ h => h.ew s4') a4, ?_⟩
      refine paired_mapR (fun y : Int × Tr => (y.1, Tr.bind gt d y.2)) ?_
      refine paired_memR (fun w y hy h => ?_) a5
      obtain ⟨b1, m2, b2, b3⟩ := h
      refine ⟨b1, ?_⟩
      exact (ih b2 b3 hgW (hA y hy) e3.no).ew ⟨fun _ h => h, fun _ h => .inl h, ls4⟩ s4'
theorem dieOn_node {K : PySem.W.Frag} {mg : Str → Option Value} {j dg d : Nat} {g : Addr} {A : List Int → Prop} {gt : List Int → Tr} {W : Addr → Prop} {ps : List (Int × Tr)} {H0 H : Hp} {x : V} (h : DieOn K mg j d W ps g H0 x H) (e : Eg K mg W H0 H) (hg : Goes K mg j W g H0 A dg gt) (hA : ∀ y ∈ ps, Tr.all A d y.2) :
    NodeAt K mg (j + 4) (d + dg + 1) W (.node (ps.map fun y => (y.1, Tr.bind gt d y.2))) x H := by
  obtain ⟨a, dx, p, us, ws, rfl, a1, a2, a3, a4, a5⟩ := h
  refine ⟨a, dx, p, us, ws, rfl, a1, a2, a3, a4, ?_⟩
  refine paired_mapR (fun y : Int × Tr => (y.1, Tr.bind gt d y.2)) ?_
  refine paired_memR (fun w y hy h => ?_) a5
  obtain ⟨b1, m2, b2, b3⟩ := h
  exact ⟨b1, gone_leads d b2 b3 hg (hA y hy) e⟩
/-- behind(node, go), where go goes on to trees -/
theorem behind_node {K : PySem.W.Frag} {mg : Str → Option Value} {j dg d : Nat} {g : Addr} {A : List Int → Prop} {gt : List Int → Tr} {W : Addr → Prop} {t : Tr} {H : Hp} {v : V} {Q : VK} {E : XK} (hn : NodeAt K mg j d W t v H) (hT : Tb K mg H) (hW : ∀ b, W b → ∃ xs, H b = some (.lst xs)) (hg : Goes K mg j W g H A dg gt) (hA : Tr.all A d t)
    (q : ∀ x H', Eg K mg No H H' → NodeAt K mg (j + 4) (d + dg) W (Tr.bind gt d t) x H' → Q x H') : sp_behind j K mg [v, .ref g] H Q E := by
  have hg2 := hg W H (vol_same hW) .refl hT
  refine ⟨d, W, t, hn, hT, hW, hg2.1, ?_⟩
  match d, t, hn, hA, q with
  | 0, .leaf ks, hn, hA, q => exact fun p hp => hg2.2 ks p hA hp Q fun x H' e hx => q x H' e (hx.le (Nat.le_add_right ..) (Nat.le_add_left ..))
  | d + 1, .leaf ks, hn, hA, q => exact fun p hp => hg2.2 ks p hA hp Q fun x H' e hx => q x H' e (hx.le (Nat.le_add_right ..) (Nat.le_add_left ..))
  | 0, .node ps, hn, hA, q => exact hn.elim
  | d + 1, .node ps, hn, hA, q =>
    intro x H' e hD
    refine q x H' e ?_
    rw [show d + 1 + dg = d + dg + 1 by omega]
    exact dieOn_node hD e.no hg hA
def sp_both_l0_l0 (K : PySem.W.Frag) (mg : Str → Option Value) : List V → List V → Hp → VK → Prop := fun ws vs H Q => match ws, vs with | [.ref p], [.ref p2] => ∃ xs ys : List Int, SqT K H p (xs.map V.int) ∧ SqT K H p2 (ys.map V.int) ∧ xs.length + ys.length ≤ 1000 ∧ ∀ x H', Same H H' → TolA mg (srtI (xs ++ ys)) x H' → Q x H' | _, _ => False
theorem nsc_both_l0_l0 : NScope ["more", "kept"] ["more"] ["kept"] (lamS s_both e_both_l0_l0) := nscope_by (by decide +kernel)
theorem c_both_l0_l0 (T : Txt K mg base) : LOkP P w K mg base (tabsX K mg) (3) "both.<locals>.<lambda>.<locals>.<lambda>" (lamP s_both e_both_l0_l0) (lamB e_both_l0_l0) (lamS s_both e_both_l0_l0) ["kept"] none (sp_both_l0_l0 K mg) := by
  refine lokP_of (N := ["more", "kept"]) (ps := ["more"]) (k := 2) nsc_both_l0_l0 (by intro cl c pm ctv us hl; match us, hl with | [_], _ => rfl) (by intro ws vs H Q h; unfold sp_both_l0_l0 at h; split at h <;> first | rfl | exact h.elim) fun f c cl A outer s H ws vs Q hr len hin h => ?_
  refine ⟨_, (pe_mk (m_Told T) hr (by decide) (by rfl) (pa_cons (pe_op op_catA (pv 1) (pv 0)) pa_nil)), ?_⟩
  try simp only [ncx_K, ncx_mg]
  unfold sp_both_l0_l0 at h
  split at h
  case h_2 => exact h.elim
  rename_i p p2
  rw [show startF ["more", "kept"] [V.ref p2] ([V.ref p].map some) = [some (V.ref p2), some (V.ref p)] from rfl]
  obtain ⟨xs, ys, hx, hy, hl, q⟩ := h
  have made : ∀ {H1 : Hp} {r : Addr} {zs : List Int}, Same H H1 → SqT K H1 r (zs.map V.int) → (∀ x H', Same H1 H' → TolA mg (srtI zs) x H' → Q x H') → MakeP (cA mg "Told") (sp_Told___init__ K mg) E0 [.ref r] H1 Q := fun s hr q => by
    intro x dx nx nd ne
    have s1 := same_made (C := cA mg "Told") nx nd ne
    refine ⟨dx, _, upd_same, .inr (s1.seqT hr), fun p H2 keep hx2 hp2 => ⟨rfl, ?_⟩⟩
    refine q _ _ (fun b o hb => keep b o (s1 _ _ hb) fun z => ?_) ⟨x, dx, p, rfl, hx2, hp2⟩
    rw [z, nx] at hb
    cases hb
  walk_at "sts"
  refine ⟨p, p2, _, _, rfl, rfl, hx, hy, sz_dec (by simp; omega), fun e => ?_, fun e1 e2 => ?_, fun e1 e2 r hr => ?_⟩
  · have : xs = [] := by simpa using e
    subst this
    walk_at "sts"
    exact made (.refl _) hy fun x H' s h => q x H' s h
  · have : ys = [] := by simpa using e2
    subst this
    walk_at "sts"
    exact made (.refl _) hx fun x H' s h => q x H' s (by rw [List.append_nil]; exact h)
  · walk_at "sts"
    refine made (zs := xs ++ ys) (same_new hr) (.of (by rw [upd_same, List.map_append])) fun x H' s h => q x H' ((same_new hr).trans s) h
def sp_both_l0 (j : Nat) (K : PySem.W.Frag) (mg : Str → Option Value) : List V → List V → Hp → VK → Prop := fun ws vs H Q => match ws, vs with | [.ref o], [.ref p] => ∃ (d : Nat) (W : Addr → Prop) (u : Tr) (xs : List Int), NodeAt K mg j d W u (.ref o) H ∧ 5 ≤ j ∧ Tb K mg H ∧ (∀ b, W b → ∃ xs, H b = some (.lst xs)) ∧ H p = some (.tup (xs.map V.int)) ∧ Tr.all (fun ys => xs.length + ys.length ≤ 1000) d u ∧ ∀ x H', Eg K mg No H H' → NodeAt K mg (j + 4) d W (Tr.bind (fun ys => .leaf (srtI (xs ++ ys))) d u) x H' → Q x H' | _, _ => False
theorem nsc_both_l0 : CScope ["kept", "other"] "kept" ["other"] (lamS s_both e_both_l0) := cscope_by (by decide +kernel)
theorem c_both_l0 (T : Txt K mg base) (j : Nat) : LOkP P w K mg base (tabsX K mg) (j + 4) "both.<locals>.<lambda>" (lamP s_both e_both_l0) (lamB e_both_l0) (lamS s_both e_both_l0) ["other"] (some "both.<locals>.<lambda>.<locals>.<lambda>") (sp_both_l0 j K mg) := by
  refine lokF_of (N := ["kept", "other"]) (k := j + 3) nsc_both_l0 (fun _ _ _ _ _ => rfl) (by intro ws vs H Q h; unfold sp_both_l0 at h; split at h <;> first | rfl | exact h.elim) fun f c cl A outer s H ws vs Q hr len hin h => ?_
  refine ⟨_, (pef_lend (x := "kept") (i := 0) rfl (by rfl) cabC rfl rfl (c_behind T (j)) hr (by omega) (by rfl) (pa_cons (pv 1) (pa_cons (pe_lamD (T := tabsX K mg) (c0 := c) (q := "both.<locals>.<lambda>") (q' := "both.<locals>.<lambda>.<locals>.<lambda>") s_both e_both_l0_l0 (by rfl) T.tb_both rfl (show ("both.<locals>.<lambda>" : Str) ++ ".<locals>." ++ "<lambda>" = ("both.<locals>.<lambda>.<locals>.<lambda>" : Str) from by decide +kernel) (by unfold tabsX; simp) (by rfl) (freeIn_ok (sc := lamS s_both e_both_l0) (lsc := lamS s_both e_both_l0_l0) (by decide +kernel))) pa_nil))), ?_⟩
  try simp only [ncxC_K, ncxC_mg]
  unfold sp_both_l0 at h
  split at h
  case h_2 => exact h.elim
  rename_i o p
  rw [show startF ["kept", "other"] [V.ref p] ([V.ref o].map some) = [some (V.ref p), some (V.ref o)] from rfl]
  obtain ⟨d, W, u, xs, hn, hj, hT, hW, hp, hA, q⟩ := h
  refine L_lend1 ?_
  walk_at "sts"
  refine ⟨hT, hin, fun f2 c2 H1 ex T1 hf e1 e2 => ?_⟩
  walk_at "sts"
  refine ⟨_, rfl, fun H' cc inj sm hcc n0 hc => ?_⟩
  have hn2 := held_new (names := (lamS s_both e_both_l0_l0).names) (H0 := H1) (H := H') (fr := ["kept"]) (ws := [.ref p]) inj (frIs_ok (by decide +kernel)) rfl fun i y w hi hw => by
    match i, hi, hw with
    | 0, hi, hw => cases hi; cases hw; exact ⟨cc, hcc, n0, hc⟩
  have ev : Eg K mg No H H' := ex.trans (.same sm)
  have L : LamAt_both_l0_l0 K mg [.ref p] f2 H H' := ⟨c2, _, sm _ _ e1, e2.ext sm, hn2.1, fun y a e => ex.dm a (hn2.2 y a e)⟩
  have hW' := goes_same (H1 := H) hW ev
  have hg : Goes K mg j W f2 H' (fun ys => xs.length + ys.length ≤ 1000) 0 (fun ys => .leaf (srtI (xs ++ ys))) := by
    intro W' H2 v e tb
    refine ⟨LamN.fn (LamN.ew L e (.inl rfl)), fun ys p2 hl hp2 Q' q' => ?_⟩
    intro P w base T
    refine (LamN.run (LamN.ew L e (.inl rfl)) (c_both_l0_l0 T) tb ((ev.no (W := W')).trans e) (.inl rfl) fun Hd Q2 ed tbd sub keep hq => ?_).le (by omega)
    exact ⟨xs, ys, .of (ed.tup hp), .of (keep _ _ hp2 fun _ z => nomatch z), hl, fun x H4 s4 ht => hq x H4 fun H5 s5 eb => q' x H5 (eb (.same s4)) (node_leaf (ht.ew (.same s5 : Eg K mg No H4 H5)))⟩
  exact behind_node (hn.ew (vol_same hW') ev.no) (ev.tb hT) hW' hg hA fun x H3 e3 hx => q x H3 (ev.trans e3) hx
def sp_both (j : Nat) (K : PySem.W.Frag) (mg : Str → Option Value) : Sp := fun vs H Q _ => match vs with | [a, .ref o] => ∃ (d d2 : Nat) (W : Addr → Prop) (t u : Tr), NodeAt K mg j d W t a H ∧ NodeAt K mg j d2 W u (.ref o) H ∧ 5 ≤ j ∧ Tb K mg H ∧ (∀ b, W b → ∃ xs, H b = some (.lst xs)) ∧ Tr.all (fun xs => Tr.all (fun ys => xs.length + ys.length ≤ 1000) d2 u) d t ∧ ∀ x H', Eg K mg No H H' → NodeAt K mg (j + 8) (d + d2) W (Tr.bind (fun xs => Tr.bind (fun ys => .leaf (srtI (xs ++ ys))) d2 u) d t) x H' → Q x H' | _ => False
theorem q_both {j : Nat} {H : Hp} {Q : VK} {E : XK} {a : V} {o : Addr} (q : ∃ (d d2 : Nat) (W : Addr → Prop) (t u : Tr), NodeAt K mg j d W t a H ∧ NodeAt K mg j d2 W u (.ref o) H ∧ 5 ≤ j ∧ Tb K mg H ∧ (∀ b, W b → ∃ xs, H b = some (.lst xs)) ∧ Tr.all (fun xs => Tr.all (fun ys => xs.length + ys.length ≤ 1000) d2 u) d t ∧ ∀ x H', Eg K mg No H H' → NodeAt K mg (j + 8) (d + d2) W (Tr.bind (fun xs => Tr.bind (fun ys => .leaf (srtI (xs ++ ys))) d2 u) d t) x H' → Q x H') : sp_both j K mg [a, .ref o] H Q E := q
local macro_rules | `(tactic| walk_at "op") => `(tactic| with_reducible refine q_both ?_)
theorem c_both (T : Txt K mg base) (j : Nat) : Cal P w K mg base (j + 8) "both" (sp_both j K mg) := by
  refine T.d_both.calT (k := j + 7) sc_both (by intro vs H Q E h; unfold sp_both at h; split at h <;> first | rfl | exact h.elim) fun f A outer s H vs Q E hr h => ?_
  refine ⟨_, (psf_lend [("other", 1)] (show ∀ a ∈ ([("other", 1)] : List (Str × Nat)), (defScope s_both).names.lookup a.1 = some .cell ∧ (["one", "other"] : List Str)[a.2]? = some a.1 from by decide +kernel) (fun _ _ h => cab_ok h) rfl rfl (c_behind T (j+4)) hr (by omega) (by rfl) (pa_cons (pv 0) (pa_cons (pe_lamX (T := tabsX K mg) (q := "both.<locals>.<lambda>") (inner := (some "both.<locals>.<lambda>.<locals>.<lambda>")) s_both e_both_l0 (by rfl) T.tb_both rfl (show ("both" : Str) ++ ".<locals>." ++ "<lambda>" = ("both.<locals>.<lambda>" : Str) from by decide +kernel) (by unfold tabsX; simp) T.hu_both (by rfl) (freeIn_ok (sc := defScope s_both) (lsc := lamS s_both e_both_l0) (by decide +kernel))) pa_nil))), ?_⟩
  try simp only [cxOf_K, cxOf_K', cxOf_mg, cxOf_mg']
  unfold sp_both at h
  split at h
  case h_2 => exact h.elim
  rename_i a o
  rw [show L2.start ["one", "other"] [a, V.ref o] = [some (a), some (V.ref o)] from rfl]
  obtain ⟨d, d2, W, t, u, hn, hu, hj, hT, hW, hA, q⟩ := h
  refine L_lend ?_
  walk_at "sts"
  refine ⟨hT, fun f c' H1 ex T1 hf e1 e2 => ?_⟩
  walk_at "sts"
  refine ⟨[("other", 1)], [.ref o], by simp, by decide, rfl, fun H' inj sm hat => ?_⟩
  have hn2 := held_new (names := (lamS s_both e_both_l0).names) (H0 := H1) (H := H') (fr := ["other"]) (ws := [.ref o]) inj (frIs_ok (by decide +kernel)) rfl fun i y w hi hw => by
    match i, hi, hw with
    | 0, hi, hw => cases hi; cases hw; exact hat 0 _ _ rfl rfl
  have ev : Eg K mg No H H' := ex.trans (.same sm)
  have L : LamAt_both_l0 K mg [.ref o] f H H' := ⟨c', _, sm _ _ e1, e2.ext sm, hn2.1, fun y a e => ex.dm a (hn2.2 y a e)⟩
  have hi2 : (some ("both.<locals>.<lambda>.<locals>.<lambda>" : Str) : Option Str) = none ∨ ∃ p ∈ tabsX K mg, p.2.2 = some ("both.<locals>.<lambda>.<locals>.<lambda>" : Str) := .inr ⟨(pF K mg "both", ("both.<locals>.<lambda>" : Str), some ("both.<locals>.<lambda>.<locals>.<lambda>" : Str)), by unfold tabsX; simp, rfl⟩
  have hW' := goes_same (H1 := H) hW ev
  have hg : Goes K mg (j + 4) W f H' (fun xs => Tr.all (fun ys => xs.length + ys.length ≤ 1000) d2 u) d2 (fun xs => Tr.bind (fun ys => .leaf (srtI (xs ++ ys))) d2 u) := by
    intro W' H2 v e tb
    refine ⟨LamN.fn (LamN.ew L e hi2), fun xs p hl hp Q' q' => ?_⟩
    intro P w base T
    have e0 : Eg K mg W' H H2 := (ev.no (W := W')).trans e
    refine (LamN.run (LamN.ew L e hi2) (c_both_l0 T j) tb e0 hi2 fun Hd Q2 ed tbd sub keep hq => ?_).le (by omega)
    have v0 : Vol W W' H Hd := ⟨v.sub, fun b hb => (v.new b hb).imp id (ev.dm b), fun b hb => by
      obtain ⟨xs, hx⟩ := v.lst b hb
      exact ⟨xs, keep _ _ hx fun _ z => nomatch z⟩⟩
    exact ⟨d2, W', u, xs, hu.ew v0 ed, hj, tbd, v0.lst, (keep _ _ hp fun _ z => nomatch z), hl, fun x H4 e4 ht => hq x H4 fun H5 s5 eb => q' x H5 (eb e4) (ht.ew (vol_same (goes_same (H1 := Hd) (goes_same (H1 := Hd) v0.lst e4) (.same s5 : Eg K mg No H4 H5))) (.same s5))⟩
  exact behind_node ((hn.ew (vol_same hW') ev.no).le (Nat.le_add_right ..) (Nat.le_refl _)) (ev.tb hT) hW' hg hA fun x H3 e3 hx => q x H3 (ev.trans e3) hx
def pickT : List (Int × Tr) → Int → Option Tr
  | [], _ => none
  | w :: ws, x => if x < w.1 then some w.2 else pickT ws (x - w.1)
/-- the tree behind a throw -/
def nxtT : Tr → V → Option Tr
  | .node ps, .int x => if x < 0 then none else pickT ps x
  | _, _ => none
def toldT : Tr → Option (List Int)
  | .leaf ks => some ks
  | _ => none
/-- along the throws: what is kept, or the place of the first one that cannot be -/
def runT (t : Tr) : List V → Nat → List Int ⊕ Nat
  | [], i => match toldT t with
    | some ks => .inl ks
    | none => .inr i
  | x :: ts, i => match nxtT t x with
    | some t' => runT t' ts (i + 1)
    | none => .inr i
theorem pickT_of {F : (Int × Addr) → (Int × Tr) → Prop} (hF : ∀ w y, F w y → w.1 = y.1) : ∀ {ws : List (Int × Addr)} {ps : List (Int × Tr)} {x : Int}, Paired F ws ps → (pickT ps x = none → pick ws x = none) ∧ ∀ t', pickT ps x = some t' → ∃ f m, pick ws x = some f ∧ F (m, f) (m, t')
  | _, _, _, .nil => ⟨fun _ => rfl, fun _ z => nomatch z⟩
  | w :: ws, y :: ps, x, .cons h t => by
    rw [pickT, pick, hF _ _ h]
    by_cases c : x < y.1
    · rw [if_pos c, if_pos c]
      exact ⟨(fun z => nomatch z), fun t' e => by
        cases e
        refine ⟨w.2, y.1, rfl, ?_⟩
        have e := hF _ _ h
        rw [show ((y.1, w.2) : Int × Addr) = w from by rw [← e]]
        exact h⟩
    · rw [if_neg c, if_neg c]
      exact pickT_of hF t
/-- one throw from a node -/
theorem at_step {j d : Nat} {W : Addr → Prop} {t : Tr} {v th : V} {H : Hp} {Q : VK} {E : XK} (h : NodeAt K mg j d W t v H) (hb : Tb K mg H) (hW : ∀ b, W b → ∃ xs, H b = some (.lst xs)) (ht : Thr th)
    (q : ∀ t', nxtT t th = some t' → ∀ x H', Eg K mg No H H' → NodeAt K mg j d W t' x H' → Q x H') (qn : nxtT t th = none → NoThr mg 0 H E) :
    ∃ a dx fs, v = .ref a ∧ fs.lookup ("after" : Str) = none ∧ ((H a = some (.ins (cA mg "Told") dx fs) ∧ sp_Told_after K mg [.ref a, th] H Q E) ∨ (H a = some (.ins (cA mg "Die") dx fs) ∧ sp_Die_after j K mg [.ref a, th] H Q E)) := by
  match d, t, h, q, qn with
  | d, .leaf ks, h, q, qn =>
    obtain ⟨a, dx, p, rfl, h1, h2⟩ := leaf_node h
    exact ⟨a, dx, _, rfl, rfl, .inl ⟨h1, qn (by cases th <;> rfl)⟩⟩
  | 0, .node ps, h, q, qn => exact h.elim
  | d + 1, .node ps, h, q, qn =>
    obtain ⟨a, dx, p, us, ws, rfl, h1, h2, hl, h3, h4⟩ := h
    refine ⟨a, dx, _, rfl, rfl, .inr ⟨h1, dx, p, us, ws, h1, h2, h3, ht, ?_⟩⟩
    rcases ht with ⟨x, rfl⟩ | ⟨b, rfl⟩ | ⟨z, rfl⟩ | rfl
    · have en : nxtT (.node ps) (.int x) = if x < 0 then none else pickT ps x := rfl
      have ep : picks ws (.int x) = if x < 0 then none else pick ws x := rfl
      by_cases c0 : x < 0
      · exact .inr ⟨by rw [ep, if_pos c0], qn (by rw [en, if_pos c0])⟩
      · rw [if_neg c0] at en ep
        have hp := pickT_of (x := x) (fun w y h => h.1) h4
        cases hk : pickT ps x with
        | none => exact .inr ⟨by rw [ep]; exact hp.1 hk, qn (by rw [en, hk])⟩
        | some t' =>
          obtain ⟨f, m, hf, _, hL⟩ := hp.2 t' hk
          exact .inl ⟨f, by rw [ep]; exact hf, hL W H (vol_same hW) .refl hb Q fun x H' e hx => q t' (by rw [en, hk]) x H' e (hx.le (Nat.le_refl _) (Nat.le_succ _))⟩
    · exact .inr ⟨rfl, qn rfl⟩
    · exact .inr ⟨rfl, qn rfl⟩
    · exact .inr ⟨rfl, qn rfl⟩
theorem at_call {j d : Nat} {W : Addr → Prop} {t : Tr} {v th : V} {H : Hp} {Q : VK} {E : L2.St → XK} {σ : L2.St} {i k : Nat} (h : NodeAt K mg j d W t v H) (hb : Tb K mg H) (hW : ∀ b, W b → ∃ xs, H b = some (.lst xs)) (ht : Thr th) (hv : σ[i]? = some (some v)) (hw : σ[k]? = some (some th))
    (q : ∀ t', nxtT t th = some t' → ∀ x H', Eg K mg No H H' → NodeAt K mg j d W t' x H' → Q x H') (qn : nxtT t th = none → NoThr mg 0 H (E σ)) :
    tOrE (tMethE (cA mg "Told") "after" (sp_Told_after K mg) E (tVar i) (tCons (tVar k) tNil)) (tMethE (cA mg "Die") "after" (sp_Die_after j K mg) E (tVar i) (tCons (tVar k) tNil)) σ H Q := by
  obtain ⟨a, dx, fs, rfl, l, hs⟩ := at_step h hb hW ht q qn
  rcases hs with ⟨h1, h2⟩ | ⟨h1, h2⟩
  · exact .inl ⟨_, hv, a, dx, fs, rfl, h1, l, _, hw, h2⟩
  · exact .inr ⟨_, hv, a, dx, fs, rfl, h1, l, _, hw, h2⟩
/-- is it told? -/
theorem at_told {j d : Nat} {W : Addr → Prop} {t : Tr} {v : V} {H : Hp} (h : NodeAt K mg j d W t v H) : ∃ a dx p, v = .ref a ∧ ((∃ ks, t = .leaf ks ∧ H a = some (.ins (cA mg "Told") dx [("places", .ref p)]) ∧ H p = some (.tup (ks.map V.int))) ∨ (∃ ps, t = .node ps ∧ H a = some (.ins (cA mg "Die") dx [("ways", .ref p)]))) := by
  match d, t, h with
  | d, .leaf ks, h =>
    obtain ⟨a, dx, p, rfl, h1, h2⟩ := leaf_node h
    exact ⟨a, dx, p, rfl, .inl ⟨ks, rfl, h1, h2⟩⟩
  | 0, .node ps, h => exact h.elim
  | d + 1, .node ps, h =>
    obtain ⟨a, dx, p, us, ws, rfl, h1, _⟩ := h
    exact ⟨a, dx, p, rfl, .inr ⟨ps, rfl, h1⟩⟩
theorem run_step {t t' : Tr} {x : V} {ts : List V} {i : Nat} (e : nxtT t x = some t') : runT t (x :: ts) i = runT t' ts (i + 1) := by
  rw [runT, e]
theorem run_none {t : Tr} {x : V} {ts : List V} {i : Nat} (e : nxtT t x = none) : runT t (x :: ts) i = .inr i := by
  rw [runT, e]
def sp_drawn (j : Nat) (K : PySem.W.Frag) (mg : Str → Option Value) : Sp := fun vs H Q E => match vs with | [v, .ref b] => ∃ (d : Nat) (W : Addr → Prop) (t : Tr) (ts : List V), NodeAt K mg j d W t v H ∧ (∀ b, W b → ∃ xs, H b = some (.lst xs)) ∧ SqL K H b ts ∧ ts.length ≤ 1000 ∧ (∀ t ∈ ts, Thr t) ∧ Tb K mg H ∧ (∀ ks w p H', runT t ts 0 = .inl ks → Eg K mg No H H' → w = .ref p → H' p = some (.tup (ks.map V.int)) → Q w H') ∧ (∀ k, runT t ts 0 = .inr k → ∀ H1, Eg K mg No H H1 → NoThr mg k H1 E) | _ => False
theorem q_drawn {j : Nat} {H : Hp} {Q : VK} {E : XK} {v : V} {b : Addr} (q : ∃ (d : Nat) (W : Addr → Prop) (t : Tr) (ts : List V), NodeAt K mg j d W t v H ∧ (∀ b, W b → ∃ xs, H b = some (.lst xs)) ∧ SqL K H b ts ∧ ts.length ≤ 1000 ∧ (∀ t ∈ ts, Thr t) ∧ Tb K mg H ∧ (∀ ks w p H', runT t ts 0 = .inl ks → Eg K mg No H H' → w = .ref p → H' p = some (.tup (ks.map V.int)) → Q w H') ∧ (∀ k, runT t ts 0 = .inr k → ∀ H1, Eg K mg No H H1 → NoThr mg k H1 E)) : sp_drawn j K mg [v, .ref b] H Q E := q
local macro_rules | `(tactic| walk_at "op") => `(tactic| with_reducible refine q_drawn ?_)
theorem c_drawn (T : Txt K mg base) (j : Nat) : CalX P w K mg base (j + 4) "drawn" (sp_drawn j K mg) := by
  refine T.d_drawn.calX (k := j + 3) sc_drawn (by intro vs H Q E h; unfold sp_drawn at h; split at h <;> first | rfl | exact h.elim) fun f cdv A outer s H vs Q E hr h => ?_
  refine ⟨_, (pss_cons (ps_for (passes_of rfl) rfl (pi_enum (by rfl) T.n_enumerate (pa_cons (pv 1) pa_nil)) (pg_tup rfl (pgs_cons (pg_name (i := 2) sc_drawn.nd rfl (.inl rfl)) (pgs_cons (pg_name (i := 3) sc_drawn.nd rfl (.inl rfl)) pgs_nil)))
    (pss_one (L2H.ps_try_onlyX (Wout := fun cls d _ H => E cls d H) (tb := fun W => (tAsg (tOrE (tMethE (cA mg "Told") "after" (sp_Told_after K mg) (fun σ => WE W σ) (tVar 0) (tCons (tVar 3) tNil)) (tMethE (cA mg "Die") "after" (sp_Die_after (j) K mg) (fun σ => WE W σ) (tVar 0) (tCons (tVar 3) tNil))) (gName 0))) (ts := fun _ _ _ => (fun _ σ H => tMkO (cA mg "NoThrow") (sp_NoThrow___init__ K mg) [] (tCons (tVar 2) tNil) σ H fun cls d H2 => E cls d H2)) rfl rfl ⟨rfl, by decide, .inl T.m_NoThrow⟩ (fun hd => L2H.passesAt_of rfl hd) (takes_of rfl rfl rfl rfl) (fun W pn xe tk _ po => by exact (pss_one (ps_set (i := 0) sc_drawn.nd rfl (.inl rfl) (PE.or (pe_nMt (c_Told_after T) hr (by omega) (fun σ => L2N.passAt tk σ) (pv 0) (pa_cons (pv 3) pa_nil)) (pe_nMt (c_Die_after T (j)) hr (by omega) (fun σ => L2N.passAt tk σ) (pv 0) (pa_cons (pv 3) pa_nil)))))) (fun a oe cls d pn zn hf tks hot => by exact (pss_one (L2H.ps_raiseHN hot tks (pmk5_x (xh_NoThrow T) T.o_NoThrow (L2H.roomH_mark hr _) (by omega) hot (by rfl) (pa_cons (pv 2) pa_nil))))))))
    (pss_cons (ps_if (pt_not (pt_val (PE.or (pe_mt0 (c_Told_is_told T) hr (by omega) (pv 0)) (pe_mt0 (c_Die_is_told T) hr (by omega) (pv 0)))))
    (pss_one (ps_raise rfl (takes_of rfl rfl rfl rfl) (pmk_x (x_NoThrow T) T.o_NoThrow hr (by omega) (by rfl) (pa_cons (pe_callB call_lenA (by rfl) T.n_len (by decide +kernel) (pa_cons (pv 1) pa_nil)) pa_nil))))
    pss_nil)
    (pss_one (ps_ret (pe_mt0 (c_Told_kept T) hr (by omega) (pv 0)))))), ?_⟩
  try simp only [cxOf_K, cxOf_K', cxOf_mg, cxOf_mg']
  unfold sp_drawn at h
  split at h
  case h_2 => exact h.elim
  rename_i v b
  rw [show L2.start ["node", "throws", "place", "throw"] [v, V.ref b] = [some (v), some (V.ref b), none, none] from rfl]
  obtain ⟨d, W, t, ts, hn, hW, hS, hl, ht, hT, q1, q2⟩ := h
  walk_at "sts"
  refine L_re hS ?_
  refine f_it (tb := (fun D => tAsg (tOrE (tMethE (cA mg "Told") "after" (sp_Told_after K mg) (fun σ => WE (wOnly K (.ref (cA mg "NoThrow")) (fun _ _ _ _ σ H => tMkO (cA mg "NoThrow") (sp_NoThrow___init__ K mg) [] (tCons (tVar 2) tNil) σ H fun cls d H2 => E cls d H2) (fun cls d _ H => E cls d H) D) σ) (tVar 0) (tCons (tVar 3) tNil)) (tMethE (cA mg "Die") "after" (sp_Die_after j K mg) (fun σ => WE (wOnly K (.ref (cA mg "NoThrow")) (fun _ _ _ _ σ H => tMkO (cA mg "NoThrow") (sp_NoThrow___init__ K mg) [] (tCons (tVar 2) tNil) σ H fun cls d H2 => E cls d H2) (fun cls d _ H => E cls d H) D) σ) (tVar 0) (tCons (tVar 3) tNil))) (gName 0) D)) walk_enum (fun i σ' H' => ∃ (t' : Tr) (v' : V) (w2 w3 : Option V), σ' = [some v', some (.ref b), w2, w3] ∧ Eg K mg No H H' ∧ NodeAt K mg j d W t' v' H' ∧ runT t ts 0 = runT t' (ts.drop i) i) ⟨t, v, _, _, rfl, .refl, hn, by rw [List.drop_zero]⟩ (fun _ _ _ _ ⟨_, _, _, _, _, e, _⟩ => e.seq0 hS) ?_ ?_
  · rintro i x σ' H1 H2 hi ⟨t', v', w2, w3, rfl, ev, at1, hr⟩ ⟨T1, k0, th, rfl, hTn, rfl, hk0, hx⟩
    cases hk0
    replace hx : ts[i]? = some th := hx
    have hd := drop_at hx
    rw [hd] at hr
    refine L_gTup (.of upd_same) rfl ?_
    have ev2 : Eg K mg No H1 (upd H1 T1 (.tup [.int (i : Int), th])) := .same (same_new hTn)
    generalize upd H1 T1 (.tup [.int (i : Int), th]) = H3 at ev2 ⊢
    have ev3 := ev.trans ev2
    have hW3 := goes_same (H1 := H) hW ev3
    have at3 := at1.ew (vol_same hW3) ev2.no
    walk_at "sts"
    refine at_call at3 (ev3.tb hT) hW3 (ht th (List.mem_of_getElem? hx)) rfl rfl (fun n2 hn2 x H4 ev4 at4 => ?_) (fun hnn d H4 s4 e4 => ?_)
    · walk_at "sts"
      exact ⟨n2, x, _, _, rfl, ev3.trans ev4, at4, by rw [hr, run_step hn2]⟩
    · refine L_only (T.y_NoThrow.exm T.e_NoThrow_NoThrow) fun a na => ?_
      refine L_mkO ?_
      walk_at "sts"
      exact q_noThrow (q2 _ (by rw [hr, run_none hnn]) _ (ev3.trans (.same s4)))
  · rintro σ' H1 ⟨t', v', w2, w3, rfl, ev, at1, hr⟩
    rw [List.drop_length] at hr
    obtain ⟨a, dx, p, rfl, ⟨ks, rfl, h1, h2⟩ | ⟨ps, rfl, h1⟩⟩ := at_told at1
    · walk_at "sts"
      refine L_orl ?_
      walk_at "sts"
      refine L_methv h1 rfl ?_
      walk_at "sts"
      refine L_methv h1 rfl ?_
      walk_at "sts"
      refine ⟨dx, p, h1, ?_⟩
      walk_at "sts"
      exact q1 ks _ p _ hr ev rfl h2
    · walk_at "sts"
      refine L_orr ?_
      walk_at "sts"
      refine L_methv h1 rfl ?_
      walk_at "sts"
      refine L_mkO ?_
      walk_at "sts"
      refine L_lenL (ev.seq0 hS) ?_
      walk_at "sts"
      exact q_noThrow (q2 _ hr _ ev)
def gc (a b : Int) : Int := (Int.gcd a b : Nat)
theorem gc_step {a b : Int} (h : 0 < b) : gc b (a % b) = gc a b := by
  have e : Int.gcd (a % b) b = Int.gcd a b := by
    refine Int.gcd_left_eq_iff.mpr fun c hc => ?_
    have d : c ∣ b * (a / b) := Int.dvd_trans hc (Int.dvd_mul_right b (a / b))
    have e2 : a % b + b * (a / b) = a := Int.emod_add_mul_ediv a b
    constructor
    · intro h; rw [← e2]; exact Int.dvd_add h d
    · intro h
      have : a % b = a - b * (a / b) := by omega
      rw [this]; exact Int.dvd_sub h d
  unfold gc
  rw [Int.gcd_comm, e]
theorem gc_zero {a : Int} : (if a < 0 then -a else a) = gc a 0 := by
  unfold gc
  rw [Int.gcd_zero_right]
  omega
theorem gc_pos {a b : Int} (h : 0 < b) : 0 < gc a b := by
  unfold gc
  have : 0 < Int.gcd a b := Int.gcd_pos_of_ne_zero_right a (by omega)
  omega
theorem gc_le {a b : Int} (h : 0 < b) : gc a b ≤ b := Int.gcd_le_right a h
theorem gc_dl {a b : Int} : gc a b ∣ a := Int.gcd_dvd_left ..
theorem gc_dr {a b : Int} : gc a b ∣ b := Int.gcd_dvd_right ..
/-- lowest terms, for a bottom from 1 on -/
def low (t b : Int) : Int × Int := (t / gc t b, b / gc t b)
theorem low_pos {t b : Int} (h : 0 < b) : 1 ≤ (low t b).2 := by
  have g := gc_pos (a := t) h
  have := Int.ediv_pos_of_pos_of_dvd h (Int.le_of_lt g) (gc_dr (a := t) (b := b))
  show 1 ≤ b / gc t b
  omega
theorem low_gc {t b : Int} (h : 0 < b) : gc (low t b).1 (low t b).2 = 1 := by
  have g := gc_pos (a := t) h
  unfold low gc
  have hh : 0 < Int.gcd t b := Int.gcd_pos_of_ne_zero_right t (by omega)
  have := Int.gcd_ediv_gcd_ediv_gcd (i := t) (j := b) hh
  show ((Int.gcd (t / (Int.gcd t b : Nat)) (b / (Int.gcd t b : Nat)) : Nat) : Int) = 1
  rw [this]; rfl
theorem low_eq {t b : Int} (h : 0 < b) : (low t b).1 * b = t * (low t b).2 := by
  have g := gc_pos (a := t) h
  obtain ⟨u, hu⟩ := gc_dl (a := t) (b := b)
  obtain ⟨v, hv⟩ := gc_dr (a := t) (b := b)
  have e1 : t / gc t b = u := Int.ediv_eq_of_eq_mul_right (by omega) hu
  have e2 : b / gc t b = v := Int.ediv_eq_of_eq_mul_right (by omega) hv
  show t / gc t b * b = t * (b / gc t b)
  rw [e1, e2]
  calc u * b = u * (gc t b * v) := by rw [← hv]
    _ = (gc t b * u) * v := by rw [← Int.mul_assoc, Int.mul_comm u]
    _ = t * v := by rw [← hu]
theorem low_bd {n : Nat} {t b : Int} (h : 0 < b) (ht : Bd n t) (hb : Bd n b) : Bd n (low t b).1 ∧ Bd n (low t b).2 := by
  have g := gc_pos (a := t) h
  constructor
  · exact Nat.lt_of_le_of_lt (Int.natAbs_ediv_le_natAbs t _) ht
  · exact Nat.lt_of_le_of_lt (Int.natAbs_ediv_le_natAbs b _) hb
/-- what share tells -/
def shr (t b : Int) : Int × Int := if b < 0 then low (0 - t) (0 - b) else low t b
theorem shr_ok {t b : Int} (h : b ≠ 0) : 1 ≤ (shr t b).2 ∧ gc (shr t b).1 (shr t b).2 = 1 ∧ (shr t b).1 * b = t * (shr t b).2 := by
  unfold shr
  split
  · have hb : 0 < 0 - b := by omega
    refine ⟨low_pos hb, low_gc hb, ?_⟩
    have e := low_eq (t := 0 - t) hb
    rw [Int.mul_sub, Int.mul_zero, Int.sub_mul, Int.zero_mul] at e
    omega
  · have hb : 0 < b := by omega
    exact ⟨low_pos hb, low_gc hb, low_eq hb⟩
theorem shr_bd {n : Nat} {t b : Int} (h : b ≠ 0) (ht : Bd n t) (hb : Bd n b) : Bd n (shr t b).1 ∧ Bd n (shr t b).2 := by
  have e : ∀ z : Int, 0 - z = -z := fun z => by omega
  unfold shr
  split
  · rw [e, e]; exact low_bd (by omega) ht.neg hb.neg
  · exact low_bd (by omega) ht hb
theorem across {p q t b x y : Int} (hb : b ≠ 0) (e : p * b = t * q) (d : t * y = x * b) : p * y = x * q := by
  refine Int.eq_of_mul_eq_mul_right hb ?_
  calc p * y * b = (p * b) * y := by rw [Int.mul_assoc, Int.mul_comm y b, Int.mul_assoc]
    _ = (t * y) * q := by rw [e, Int.mul_assoc, Int.mul_comm q y, ← Int.mul_assoc]
    _ = x * q * b := by rw [d, Int.mul_assoc, Int.mul_comm b q, ← Int.mul_assoc]
def sp_divisor (K : PySem.W.Frag) (mg : Str → Option Value) : Sp := fun vs H Q _ => match vs with | [.int a, .int b] => 0 ≤ b ∧ Q (.int (gc a b)) H | _ => False
theorem q_divisor {H : Hp} {Q : VK} {E : XK} {a : Int} {b : Int} (q : 0 ≤ b ∧ Q (.int (gc a b)) H) : sp_divisor K mg [.int a, .int b] H Q E := q
local macro_rules | `(tactic| walk_at "op") => `(tactic| with_reducible refine q_divisor ?_)
theorem c_divisor (T : Txt K mg base) : Cal P w K mg base 1 "divisor" (sp_divisor K mg) := by
  refine T.d_divisor.cal (k := 0) sc_divisor (by intro vs H Q E h; unfold sp_divisor at h; split at h <;> first | rfl | exact h.elim) fun f cdv A outer s H vs Q E hr h => ?_
  refine ⟨_, (pss_cons (ps_while PassesOwn.never (pt_cmpR (op_neA hr) (pv 1) pe_int (nomark _))
    (pss_one (ps_par (i := 0) (j := 1) rfl sc_divisor.nd rfl rfl (by decide) rfl rfl (pa_cons (pv 1) (pa_cons (pe_op op_mod (pv 0) (pv 1)) pa_nil)) (by rfl))))
    (pss_one (ps_ret (pe_callB call_absA (by rfl) T.n_abs (by decide +kernel) (pa_cons (pv 0) pa_nil))))), ?_⟩
  try simp only [cxOf_K, cxOf_K', cxOf_mg, cxOf_mg']
  unfold sp_divisor at h
  split at h
  case h_2 => exact h.elim
  rename_i a b
  rw [show L2.start ["one", "other"] [V.int a, V.int b] = [some (V.int a), some (V.int b)] from rfl]
  obtain ⟨hb, q⟩ := h
  walk_at "sts"
  refine L_while (fun m σ' H' => ∃ x y : Int, σ' = [some (.int x), some (.int y)] ∧ 0 ≤ y ∧ gc x y = gc a b ∧ m = y.toNat ∧ H' = H) ⟨_, a, b, rfl, hb, rfl, rfl, rfl⟩ ?_
  rintro m σ' H' ⟨x, y, rfl, hy, e, rfl, rfl⟩
  walk_at "sts"
  refine L_nd (fun c => ?_) (fun c => ?_)
  · refine L_N ?_
    walk_at "sts"
    refine L_I (by omega) ?_
    walk_at "sts"
    have h1 := Int.emod_nonneg x c
    have h2 := Int.emod_lt_of_pos x (show 0 < y by omega)
    exact ⟨(x % y).toNat, by omega, y, x % y, rfl, h1, (gc_step (by omega)).trans e, rfl, rfl⟩
  · subst c
    walk_at "sts"
    rw [gc_zero, e]
    exact q
def sp_share (K : PySem.W.Frag) (mg : Str → Option Value) : Sp := fun vs H Q _ => match vs with | [.int t, .int b] => b ≠ 0 ∧ Bd 8000 b ∧ NewT H [.int (shr t b).1, .int (shr t b).2] Q | _ => False
theorem q_share {H : Hp} {Q : VK} {E : XK} {t : Int} {b : Int} (q : b ≠ 0 ∧ Bd 8000 b ∧ NewT H [.int (shr t b).1, .int (shr t b).2] Q) : sp_share K mg [.int t, .int b] H Q E := q
local macro_rules | `(tactic| walk_at "op") => `(tactic| with_reducible refine q_share ?_)
theorem c_share (T : Txt K mg base) : Cal P w K mg base 2 "share" (sp_share K mg) := by
  refine T.d_share.cal (k := 1) sc_share (by intro vs H Q E h; unfold sp_share at h; split at h <;> first | rfl | exact h.elim) fun f cdv A outer s H vs Q E hr h => ?_
  refine ⟨_, (pss_cons (ps_if (pt_cmpR op_ltA (pv 1) pe_int (nomark _))
    (pss_one (ps_par (i := 0) (j := 1) rfl sc_share.nd rfl rfl (by decide) rfl rfl (pa_cons (pe_op op_sub pe_int (pv 0)) (pa_cons (pe_op op_sub pe_int (pv 1)) pa_nil)) (by rfl)))
    pss_nil)
    (pss_cons (ps_set (i := 2) sc_share.nd rfl (.inl rfl) (pe_c (c_divisor T) hr (by decide) (by rfl) (pa_cons (pv 0) (pa_cons (pv 1) pa_nil))))
    (pss_one (ps_ret (pe_tup (pa_cons (pe_op op_fdivW (pv 0) (pv 2)) (pa_cons (pe_op op_fdivW (pv 1) (pv 2)) pa_nil))))))), ?_⟩
  try simp only [cxOf_K, cxOf_K', cxOf_mg, cxOf_mg']
  unfold sp_share at h
  split at h
  case h_2 => exact h.elim
  rename_i t b
  rw [show L2.start ["top", "bottom", "many"] [V.int t, V.int b] = [some (V.int t), some (V.int b), none] from rfl]
  obtain ⟨hb, hd, q⟩ := h
  have key : ∀ t' b' : Int, 0 < b' → Bd 8000 b' → low t' b' = shr t b → t / 1 = t → CDivW t' (gc t' b') := fun t' b' h0 h1 _ _ => by
    have g := gc_pos (a := t') h0
    have l := gc_le (a := t') h0
    refine Bd.cdiv (n := 8000) ?_ g
    unfold Bd at *
    omega
  walk_at "sts"
  refine L_d (fun c => ?_) (fun c => ?_)
  · walk_at "sts"
    have e : shr t b = low (0 - t) (0 - b) := if_pos c
    have hd' : Bd 8000 (0 - b) := by unfold Bd at *; omega
    refine ⟨by omega, ?_⟩
    walk_at "sts"
    refine L_I (key _ _ (by omega) hd' e.symm (by simp)) ?_
    walk_at "sts"
    refine L_I (key (0 - t) _ (by omega) hd' e.symm (by simp)) ?_
    walk_at "sts"
    rw [e] at q
    exact L_new (sz_dec (by show 2 ≤ 1000000; decide)) q.at
  · walk_at "sts"
    have e : shr t b = low t b := if_neg c
    refine ⟨by omega, ?_⟩
    walk_at "sts"
    refine L_I (key _ _ (by omega) hd e.symm (by simp)) ?_
    walk_at "sts"
    refine L_I (key t _ (by omega) hd e.symm (by simp)) ?_
    walk_at "sts"
    rw [e] at q
    exact L_new (sz_dec (by show 2 ≤ 1000000; decide)) q.at
/-- a fraction at a -/
def Fr2 (K : PySem.W.Frag) (H : Hp) (a : Addr) (x y : Int) : Prop := SqT K H a [.int x, .int y] ∧ 1 ≤ y ∧ Bd 3900 x ∧ Bd 3900 y
def sp_plus (K : PySem.W.Frag) (mg : Str → Option Value) : Sp := fun vs H Q _ => match vs with | [.ref a, .ref b] => ∃ x y u v, Fr2 K H a x y ∧ Fr2 K H b u v ∧ NewT H [.int (shr (x * v + u * y) (y * v)).1, .int (shr (x * v + u * y) (y * v)).2] Q | _ => False
theorem q_plus {H : Hp} {Q : VK} {E : XK} {a : Addr} {b : Addr} (q : ∃ x y u v, Fr2 K H a x y ∧ Fr2 K H b u v ∧ NewT H [.int (shr (x * v + u * y) (y * v)).1, .int (shr (x * v + u * y) (y * v)).2] Q) : sp_plus K mg [.ref a, .ref b] H Q E := q
local macro_rules | `(tactic| walk_at "op") => `(tactic| with_reducible refine q_plus ?_)
theorem c_plus (T : Txt K mg base) : Cal P w K mg base 3 "plus" (sp_plus K mg) := by
  refine T.d_plus.cal (k := 2) sc_plus (by intro vs H Q E h; unfold sp_plus at h; split at h <;> first | rfl | exact h.elim) fun f cdv A outer s H vs Q E hr h => ?_
  refine ⟨_, (pss_one (ps_ret (pe_c (c_share T) hr (by decide) (by rfl) (pa_cons (pe_op op_addA (pe_op op_mulA (pe_ix ix_seq (pv 0) pe_int (fun _ _ => rfl)) (pe_ix ix_seq (pv 1) pe_int (fun _ _ => rfl))) (pe_op op_mulA (pe_ix ix_seq (pv 1) pe_int (fun _ _ => rfl)) (pe_ix ix_seq (pv 0) pe_int (fun _ _ => rfl)))) (pa_cons (pe_op op_mulA (pe_ix ix_seq (pv 0) pe_int (fun _ _ => rfl)) (pe_ix ix_seq (pv 1) pe_int (fun _ _ => rfl))) pa_nil))))), ?_⟩
  try simp only [cxOf_K, cxOf_K', cxOf_mg, cxOf_mg']
  unfold sp_plus at h
  split at h
  case h_2 => exact h.elim
  rename_i a b
  rw [show L2.start ["one", "other"] [V.ref a, V.ref b] = [some (V.ref a), some (V.ref b)] from rfl]
  obtain ⟨x, y, u, v, ⟨ha, h1, bx, by_⟩, ⟨hb, h2, bu, bv⟩, q⟩ := h
  walk_at "sts"
  refine L_ixT ha rfl ?_
  walk_at "sts"
  refine L_ixT hb rfl ?_
  refine L_mulI (bx.cmul bv) ?_
  walk_at "sts"
  refine L_ixT hb rfl ?_
  walk_at "sts"
  refine L_ixT ha rfl ?_
  refine L_mulI (bu.cmul by_) ?_
  walk_at "sts"
  refine L_ixT ha rfl ?_
  walk_at "sts"
  refine L_ixT hb rfl ?_
  refine L_mulI (by_.cmul bv) ?_
  walk_at "sts"
  exact ⟨Int.mul_ne_zero (by omega) (by omega), (by_.mul bv).mono (by decide), q⟩
def sp_times (K : PySem.W.Frag) (mg : Str → Option Value) : Sp := fun vs H Q _ => match vs with | [.ref a, .ref b] => ∃ x y u v, Fr2 K H a x y ∧ Fr2 K H b u v ∧ NewT H [.int (shr (x * u) (y * v)).1, .int (shr (x * u) (y * v)).2] Q | _ => False
theorem q_times {H : Hp} {Q : VK} {E : XK} {a : Addr} {b : Addr} (q : ∃ x y u v, Fr2 K H a x y ∧ Fr2 K H b u v ∧ NewT H [.int (shr (x * u) (y * v)).1, .int (shr (x * u) (y * v)).2] Q) : sp_times K mg [.ref a, .ref b] H Q E := q
local macro_rules | `(tactic| walk_at "op") => `(tactic| with_reducible refine q_times ?_)
theorem c_times (T : Txt K mg base) : Cal P w K mg base 3 "times" (sp_times K mg) := by
  refine T.d_times.cal (k := 2) sc_times (by intro vs H Q E h; unfold sp_times at h; split at h <;> first | rfl | exact h.elim) fun f cdv A outer s H vs Q E hr h => ?_
  refine ⟨_, (pss_one (ps_ret (pe_c (c_share T) hr (by decide) (by rfl) (pa_cons (pe_op op_mulA (pe_ix ix_seq (pv 0) pe_int (fun _ _ => rfl)) (pe_ix ix_seq (pv 1) pe_int (fun _ _ => rfl))) (pa_cons (pe_op op_mulA (pe_ix ix_seq (pv 0) pe_int (fun _ _ => rfl)) (pe_ix ix_seq (pv 1) pe_int (fun _ _ => rfl))) pa_nil))))), ?_⟩
  try simp only [cxOf_K, cxOf_K', cxOf_mg, cxOf_mg']
  unfold sp_times at h
  split at h
  case h_2 => exact h.elim
  rename_i a b
  rw [show L2.start ["one", "other"] [V.ref a, V.ref b] = [some (V.ref a), some (V.ref b)] from rfl]
  obtain ⟨x, y, u, v, ⟨ha, h1, bx, by_⟩, ⟨hb, h2, bu, bv⟩, q⟩ := h
  walk_at "sts"
  refine L_ixT ha rfl ?_
  walk_at "sts"
  refine L_ixT hb rfl ?_
  refine L_mulI (bx.cmul bu) ?_
  walk_at "sts"
  refine L_ixT ha rfl ?_
  walk_at "sts"
  refine L_ixT hb rfl ?_
  refine L_mulI (by_.cmul bv) ?_
  walk_at "sts"
  exact ⟨Int.mul_ne_zero (by omega) (by omega), (by_.mul bv).mono (by decide), q⟩
/-- lowest terms are one -/
theorem cop_dvd {p q r s : Int} (g : gc p q = 1) (e : p * s = r * q) : q ∣ s := by
  have c1 : Int.gcd p q = 1 := Int.ofNat.inj g
  have h : q.natAbs ∣ p.natAbs * s.natAbs := by
    rw [← Int.natAbs_mul, e, Int.natAbs_mul]
    exact Nat.dvd_mul_left _ _
  have c : Nat.Coprime q.natAbs p.natAbs := by
    rw [Nat.coprime_comm]
    exact c1
  exact Int.natAbs_dvd_natAbs.mp (c.dvd_of_dvd_mul_left h)
theorem cop_uniq {p q r s : Int} (hq : 0 < q) (hs : 0 < s) (g1 : gc p q = 1) (g2 : gc r s = 1) (e : p * s = r * q) : p = r ∧ q = s := by
  have l1 := Int.le_of_dvd hs (cop_dvd g1 e)
  have l2 := Int.le_of_dvd hq (cop_dvd g2 e.symm)
  have : q = s := by omega
  subst this
  exact ⟨Int.eq_of_mul_eq_mul_right (by omega) e, rfl⟩
theorem low_uniq {a b c d : Int} (hb : 0 < b) (hd : 0 < d) (e : a * d = c * b) : low a b = low c d := by
  have p1 := low_pos (t := a) hb
  have p2 := low_pos (t := c) hd
  have e1 := low_eq (t := a) hb
  have e2 := low_eq (t := c) hd
  have key : (low a b).1 * (low c d).2 = (low c d).1 * (low a b).2 := by
    have hbd : b * d ≠ 0 := Int.mul_ne_zero (by omega) (by omega)
    refine Int.eq_of_mul_eq_mul_right hbd ?_
    calc (low a b).1 * (low c d).2 * (b * d) = ((low a b).1 * b) * ((low c d).2 * d) := by simp only [Int.mul_comm, Int.mul_left_comm, Int.mul_assoc]
      _ = (a * (low a b).2) * ((low c d).2 * d) := by rw [e1]
      _ = (a * d) * ((low a b).2 * (low c d).2) := by simp only [Int.mul_comm, Int.mul_left_comm, Int.mul_assoc]
      _ = (c * b) * ((low a b).2 * (low c d).2) := by rw [e]
      _ = (c * (low c d).2) * ((low a b).2 * b) := by simp only [Int.mul_comm, Int.mul_left_comm, Int.mul_assoc]
      _ = ((low c d).1 * d) * ((low a b).2 * b) := by rw [e2]
      _ = (low c d).1 * (low a b).2 * (b * d) := by simp only [Int.mul_comm, Int.mul_left_comm, Int.mul_assoc]
  obtain ⟨h1, h2⟩ := cop_uniq (by omega) (by omega) (low_gc hb) (low_gc hd) key
  exact Prod.ext h1 h2
theorem shr_low {t b : Int} (h : 0 < b) : shr t b = low t b := if_neg (by omega)
theorem low_at {x y a L : Int} (hL : 0 < L) (hy : 0 < y) (e : x * L = a * y) : low x y = low a L := low_uniq hy hL e
theorem low_add {a b L : Int} (hL : 0 < L) : shr ((low a L).1 * (low b L).2 + (low b L).1 * (low a L).2) ((low a L).2 * (low b L).2) = low (a + b) L := by
  have p1 := low_pos (t := a) hL
  have p2 := low_pos (t := b) hL
  have e1 := low_eq (t := a) hL
  have e2 := low_eq (t := b) hL
  have hp : 0 < (low a L).2 * (low b L).2 := Int.mul_pos (by omega) (by omega)
  rw [shr_low hp]
  refine low_uniq hp hL ?_
  rw [Int.add_mul, Int.add_mul, show (low a L).1 * (low b L).2 * L = ((low a L).1 * L) * (low b L).2 by simp only [Int.mul_comm, Int.mul_left_comm, Int.mul_assoc], e1, show (low b L).1 * (low a L).2 * L = ((low b L).1 * L) * (low a L).2 by simp only [Int.mul_comm, Int.mul_left_comm, Int.mul_assoc], e2]
  simp only [Int.mul_comm, Int.mul_left_comm, Int.mul_assoc]
theorem low_sub1 {a L : Int} (hL : 0 < L) : shr ((low a L).1 * 1 - 1 * (low a L).2) ((low a L).2 * 1) = low (a - L) L := by
  have p1 := low_pos (t := a) hL
  have e1 := low_eq (t := a) hL
  rw [Int.mul_one, Int.mul_one, Int.one_mul, shr_low (by omega)]
  refine low_uniq (by omega) hL ?_
  rw [Int.sub_mul, e1, Int.sub_mul, Int.mul_comm L]
theorem low_lt1 {a L : Int} (hL : 0 < L) : ((low a L).1 * 1 < 1 * (low a L).2) ↔ a < L := by
  have p1 := low_pos (t := a) hL
  have e1 := low_eq (t := a) hL
  rw [Int.mul_one, Int.one_mul]
  constructor
  · intro h
    have h2 : (low a L).1 * L < (low a L).2 * L := Int.mul_lt_mul_of_pos_right h hL
    rw [e1, Int.mul_comm] at h2
    exact Int.lt_of_mul_lt_mul_left h2 (by omega)
  · intro h
    have h2 : (low a L).2 * a < (low a L).2 * L := Int.mul_lt_mul_of_pos_left h (by omega)
    rw [Int.mul_comm, ← e1] at h2
    exact Int.lt_of_mul_lt_mul_right h2 (by omega)
theorem low_zero {a L : Int} (hL : 0 < L) : low a L = (0, 1) ↔ a = 0 := by
  constructor
  · intro h
    have e1 := low_eq (t := a) hL
    rw [h] at e1
    simpa using e1.symm
  · rintro rfl
    have e : low 0 L = low 0 1 := low_uniq hL (by decide) (by simp)
    rw [e]
    rfl
theorem low_one {a L : Int} (hL : 0 < L) : low a L = (1, 1) ↔ a = L := by
  constructor
  · intro h
    have e1 := low_eq (t := a) hL
    rw [h] at e1
    simpa using e1.symm
  · rintro rfl
    have e : low a a = low 1 1 := low_uniq hL (by decide) (by simp)
    rw [e]
    rfl
theorem low_opn {a L : Int} (hL : 0 < L) : (0 < (low a L).1 ∧ (low a L).1 < (low a L).2) ↔ (0 < a ∧ a < L) := by
  have p1 := low_pos (t := a) hL
  have e1 := low_eq (t := a) hL
  have h2 := low_lt1 (a := a) hL
  rw [Int.mul_one, Int.one_mul] at h2
  rw [h2]
  have : 0 < (low a L).1 ↔ 0 < a := by
    constructor
    · intro h
      have h3 : 0 < (low a L).1 * L := Int.mul_pos h hL
      rw [e1] at h3
      exact Int.pos_of_mul_pos_left h3 (by omega)
    · intro h
      have h3 : 0 < a * (low a L).2 := Int.mul_pos h (by omega)
      rw [← e1] at h3
      exact Int.pos_of_mul_pos_left h3 (by omega)
  rw [this]
theorem low_dvd {a L : Int} (hL : 0 < L) : (low a L).2 ≤ L := by
  have g := gc_pos (a := a) hL
  show L / gc a L ≤ L
  exact Int.ediv_le_self _ (by omega)
theorem low_bL {a L : Int} (hL : 0 < L) (h : L ≤ 1000000000) (ha : -1000000000000 ≤ a ∧ a ≤ 1000000000000) : 1 ≤ (low a L).2 ∧ Bd 64 (low a L).1 ∧ Bd 64 (low a L).2 := ⟨low_pos hL, low_bd hL (bd_64 (by omega)) (bd_64 (by omega))⟩
/-! fractions as rationals -/
def qt (r : Rat) : Int × Int := (r.num, (r.den : Int))
theorem q_nd (r : Rat) : (r.num : Rat) / ((r.den : Int) : Rat) = r := by rw [← Rat.divInt_eq_div, Rat.num_divInt_den]
theorem q_dp (r : Rat) : 0 < (r.den : Int) := by have := r.den_pos; omega
theorem i_ne {b : Int} (h : b ≠ 0) : (b : Rat) ≠ 0 := fun z => h (Rat.intCast_inj.mp (by simpa using z))
theorem q_eq {r : Rat} {t b : Int} (hb : b ≠ 0) (h : r = (t : Rat) / b) : r.num * b = t * (r.den : Int) := by
  have e := q_nd r
  have hd : (((r.den : Int)) : Rat) ≠ 0 := i_ne (by have := q_dp r; omega)
  have hb' : (b : Rat) ≠ 0 := i_ne hb
  have : (r.num : Rat) * b = t * ((r.den : Int) : Rat) := by
    generalize (r.num : Rat) = x at e ⊢
    generalize ((r.den : Int) : Rat) = y at e hd ⊢
    grind
  have h3 : ((r.num * b : Int) : Rat) = ((t * (r.den : Int) : Int) : Rat) := by
    rw [Rat.intCast_mul, Rat.intCast_mul]
    exact this
  exact Rat.intCast_inj.mp h3
theorem q_gc (r : Rat) : gc r.num (r.den : Int) = 1 := by
  have := r.reduced
  unfold gc
  rw [show Int.gcd r.num (r.den : Int) = 1 from this]
  rfl
theorem shr_qt {t b : Int} {r : Rat} (hb : b ≠ 0) (h : r = (t : Rat) / b) : shr t b = qt r := by
  obtain ⟨h1, h2, h3⟩ := shr_ok (t := t) hb
  have e := q_eq hb h
  have dp := q_dp r
  have key : (shr t b).1 * (r.den : Int) = r.num * (shr t b).2 := by
    refine Int.eq_of_mul_eq_mul_right hb ?_
    generalize (r.den : Int) = d at *
    generalize r.num = n at *
    generalize (shr t b).1 = x at *
    generalize (shr t b).2 = y at *
    grind
  obtain ⟨h4, h5⟩ := cop_uniq (by omega) dp h2 (q_gc r) key
  exact Prod.ext h4 h5
theorem low_qt {t b : Int} {r : Rat} (hb : 0 < b) (h : r = (t : Rat) / b) : low t b = qt r := by rw [← shr_low hb]; exact shr_qt (by omega) h
theorem qt_inj {a b : Rat} : qt a = qt b ↔ a = b := by
  constructor
  · intro h
    have h1 := congrArg Prod.fst h
    have h2 := congrArg Prod.snd h
    exact Rat.ext h1 (Int.ofNat.inj h2)
  · rintro rfl
    rfl
theorem qt_0 : qt 0 = (0, 1) := rfl
theorem qt_1 : qt 1 = (1, 1) := rfl
theorem d_ne (r : Rat) : (((r.den : Int)) : Rat) ≠ 0 := i_ne (by have := q_dp r; omega)
theorem q_add (a b : Rat) : shr ((qt a).1 * (qt b).2 + (qt b).1 * (qt a).2) ((qt a).2 * (qt b).2) = qt (a + b) := by
  refine shr_qt (Int.mul_ne_zero (by have := q_dp a; show (a.den : Int) ≠ 0; omega) (by have := q_dp b; show (b.den : Int) ≠ 0; omega)) ?_
  have e1 := q_nd a
  have e2 := q_nd b
  have d1 := d_ne a
  have d2 := d_ne b
  show a + b = ((a.num * (b.den : Int) + b.num * (a.den : Int) : Int) : Rat) / (((a.den : Int) * (b.den : Int) : Int) : Rat)
  rw [Rat.intCast_add, Rat.intCast_mul, Rat.intCast_mul, Rat.intCast_mul]
  generalize (a.num : Rat) = x at *
  generalize ((a.den : Int) : Rat) = y at *
  generalize (b.num : Rat) = u at *
  generalize ((b.den : Int) : Rat) = v at *
  grind
theorem q_sub (a b : Rat) : shr ((qt a).1 * (qt b).2 - (qt b).1 * (qt a).2) ((qt a).2 * (qt b).2) = qt (a - b) := by
  refine shr_qt (Int.mul_ne_zero (by have := q_dp a; show (a.den : Int) ≠ 0; omega) (by have := q_dp b; show (b.den : Int) ≠ 0; omega)) ?_
  have e1 := q_nd a
  have e2 := q_nd b
  have d1 := d_ne a
  have d2 := d_ne b
  show a - b = ((a.num * (b.den : Int) - b.num * (a.den : Int) : Int) : Rat) / (((a.den : Int) * (b.den : Int) : Int) : Rat)
  rw [Rat.intCast_sub, Rat.intCast_mul, Rat.intCast_mul, Rat.intCast_mul]
  generalize (a.num : Rat) = x at *
  generalize ((a.den : Int) : Rat) = y at *
  generalize (b.num : Rat) = u at *
  generalize ((b.den : Int) : Rat) = v at *
  grind
theorem q_mul (a b : Rat) : shr ((qt a).1 * (qt b).1) ((qt a).2 * (qt b).2) = qt (a * b) := by
  refine shr_qt (Int.mul_ne_zero (by have := q_dp a; show (a.den : Int) ≠ 0; omega) (by have := q_dp b; show (b.den : Int) ≠ 0; omega)) ?_
  have e1 := q_nd a
  have e2 := q_nd b
  have d1 := d_ne a
  have d2 := d_ne b
  show a * b = ((a.num * b.num : Int) : Rat) / (((a.den : Int) * (b.den : Int) : Int) : Rat)
  rw [Rat.intCast_mul, Rat.intCast_mul]
  generalize (a.num : Rat) = x at *
  generalize ((a.den : Int) : Rat) = y at *
  generalize (b.num : Rat) = u at *
  generalize ((b.den : Int) : Rat) = v at *
  grind
theorem q_num0 {a : Rat} (h : a ≠ 0) : (qt a).1 ≠ 0 := fun z => h (by
  have e := q_nd a
  rw [show a.num = 0 from z] at e
  rw [← e]
  have d := d_ne a
  generalize ((a.den : Int) : Rat) = y at *
  grind)
theorem q_div (a b : Rat) (h : b ≠ 0) : shr ((qt a).1 * (qt b).2) ((qt a).2 * (qt b).1) = qt (a / b) := by
  have hn := q_num0 h
  refine shr_qt (Int.mul_ne_zero (by have := q_dp a; show (a.den : Int) ≠ 0; omega) hn) ?_
  have e1 := q_nd a
  have e2 := q_nd b
  have d1 := d_ne a
  have d2 := d_ne b
  have n2 : (b.num : Rat) ≠ 0 := i_ne hn
  show a / b = ((a.num * (b.den : Int) : Int) : Rat) / (((a.den : Int) * b.num : Int) : Rat)
  rw [Rat.intCast_mul, Rat.intCast_mul]
  generalize (a.num : Rat) = x at *
  generalize ((a.den : Int) : Rat) = y at *
  generalize (b.num : Rat) = u at *
  generalize ((b.den : Int) : Rat) = v at *
  grind
theorem q_lt (a b : Rat) : ((qt a).1 * (qt b).2 < (qt b).1 * (qt a).2) ↔ a < b := by
  rw [Rat.lt_iff]
  exact Iff.rfl
/-- bounded -/
def BdQ (n : Nat) (r : Rat) : Prop := Bd n (qt r).1 ∧ Bd n (qt r).2
theorem bdq_of {n : Nat} {t b : Int} {r : Rat} (hb : b ≠ 0) (h : r = (t : Rat) / b) (h1 : Bd n t) (h2 : Bd n b) : BdQ n r := by
  have := shr_bd hb h1 h2
  rw [shr_qt hb h] at this
  exact this
theorem BdQ.mono {n m : Nat} {r : Rat} (h : BdQ n r) (hm : n ≤ m) : BdQ m r := ⟨h.1.mono hm, h.2.mono hm⟩
theorem q_pos {r : Rat} : 0 < (qt r).1 ↔ 0 < r := by
  have := q_lt 0 r
  rw [← this]
  show _ ↔ (0 * (r.den : Int) < r.num * 1)
  rw [Int.zero_mul, Int.mul_one]
  exact Iff.rfl
theorem q_lt1 {r : Rat} : (qt r).1 < (qt r).2 ↔ r < 1 := by
  have := q_lt r 1
  rw [← this]
  show _ ↔ (r.num * 1 < 1 * (r.den : Int))
  rw [Int.one_mul, Int.mul_one]
  exact Iff.rfl
/-! rationals that are whole; quotients -/
def isI (r : Rat) : Prop := ∃ z : Int, r = (z : Rat)
theorem isI_mul {a b : Rat} (h : isI a) (k : isI b) : isI (a * b) := by
  obtain ⟨x, rfl⟩ := h
  obtain ⟨y, rfl⟩ := k
  exact ⟨x * y, by rw [Rat.intCast_mul]⟩
theorem isI_add {a b : Rat} (h : isI a) (k : isI b) : isI (a + b) := by
  obtain ⟨x, rfl⟩ := h
  obtain ⟨y, rfl⟩ := k
  exact ⟨x + y, by rw [Rat.intCast_add]⟩
theorem isI_sub {a b : Rat} (h : isI a) (k : isI b) : isI (a - b) := by
  obtain ⟨x, rfl⟩ := h
  obtain ⟨y, rfl⟩ := k
  exact ⟨x - y, by rw [Rat.intCast_sub]⟩
theorem isI_0 : isI 0 := ⟨0, rfl⟩
theorem isI_int (z : Int) : isI (z : Rat) := ⟨z, rfl⟩
theorem iq_pos {L : Int} (h : 0 < L) : (0 : Rat) < (L : Rat) := Rat.intCast_pos.mpr h
theorem div_pos' {a b : Rat} (ha : 0 < a) (hb : 0 < b) : 0 < a / b := by
  rw [Rat.lt_div_iff hb]
  grind
theorem div_nn {a b : Rat} (ha : 0 ≤ a) (hb : 0 < b) : 0 ≤ a / b := by
  rcases Rat.le_iff_lt_or_eq.mp ha with h | h
  · exact Rat.le_of_lt (div_pos' h hb)
  · rw [← h]
    grind
theorem div_le1 {a b : Rat} (h : a ≤ b) (hb : 0 < b) : a / b ≤ 1 := by
  have e : a / b * b = a := by grind
  rcases (Rat.le_total : a / b ≤ 1 ∨ 1 ≤ a / b) with z | z
  · exact z
  · have : b ≤ a / b * b := by
      have := Rat.mul_le_mul_of_nonneg_right z (Rat.le_of_lt hb)
      grind
    have : a / b = 1 := by
      have hne : b ≠ 0 := by grind
      have : a = b := by grind
      rw [this]
      grind
    grind
theorem bdq_isI {r : Rat} {D : Int} {n : Nat} (h0 : 0 < D) (hD : D ≤ 2 ^ n) (hi : isI (r * D)) (r0 : 0 ≤ r) (r1 : r ≤ 1) : BdQ (n + 1) r := by
  obtain ⟨z, hz⟩ := hi
  have hDq := iq_pos h0
  have e : r = (z : Rat) / D := by
    rw [← hz]
    grind
  have z0 : 0 ≤ z := by
    have : (0 : Rat) ≤ (z : Rat) := by rw [← hz]; exact Rat.mul_nonneg r0 (Rat.le_of_lt hDq)
    exact Rat.intCast_nonneg.mp this
  have z1 : z ≤ D := by
    have : (z : Rat) ≤ (D : Rat) := by
      rw [← hz]
      have := Rat.mul_le_mul_of_nonneg_right r1 (Rat.le_of_lt hDq)
      grind
    exact Rat.intCast_le_intCast.mp this
  have p2 : (2 : Int) ^ n < 2 ^ (n + 1) := by
    have : (0 : Int) < 2 ^ n := Int.pow_pos (by decide)
    rw [Int.pow_succ]
    omega
  have bd : ∀ x : Int, 0 ≤ x → x ≤ D → Bd (n + 1) x := fun x h1 h2 => by
    unfold Bd
    have : (x.natAbs : Int) < ((2 ^ (n + 1) : Nat) : Int) := by
      rw [Int.natCast_pow]
      show (x.natAbs : Int) < (2 : Int) ^ (n + 1)
      omega
    exact Int.ofNat_lt.mp this
  exact bdq_of (by omega) e (bd z z0 z1) (bd D (by omega) (by omega))
theorem pow32 (n : Nat) : (2 : Int) ^ (32 * (n + 1)) = 2 ^ (32 * n) * 4294967296 := by
  rw [Nat.mul_succ, Int.pow_add]
  rfl
theorem grow32 {n : Nat} {D d : Int} (d0 : 0 < D) (d1 : D ≤ 2 ^ (32 * n)) (e0 : 0 < d) (e1 : d ≤ 4294967296) : 0 < D * d ∧ D * d ≤ 2 ^ (32 * (n + 1)) := by
  rw [pow32]
  exact ⟨Int.mul_pos d0 e0, Int.mul_le_mul d1 e1 (by omega) (by omega)⟩
theorem bdq_mul {n m : Nat} {a b : Rat} (h : BdQ n a) (k : BdQ m b) : BdQ (n + m) (a * b) := by
  have e := q_mul a b
  have hd : (qt a).2 * (qt b).2 ≠ 0 := Int.mul_ne_zero (by have := q_dp a; show (a.den : Int) ≠ 0; omega) (by have := q_dp b; show (b.den : Int) ≠ 0; omega)
  have := shr_bd hd (h.1.mul k.1) (h.2.mul k.2)
  rw [e] at this
  exact this
theorem upd_keep {H : Hp} {D b : Addr} {us : List V} {o o' : HO} (h : H D = some (.lst us)) (hb : H b = some o') (ne : ∀ l, o' ≠ .lst l) : L2.upd H D o b = some o' := by
  rw [upd_ne (fun z => by rw [z, h] at hb; cases hb; exact ne us rfl)]
  exact hb
/-- a fraction in the heap -/
def QtA (K : PySem.W.Frag) (H : Hp) (a : Addr) (r : Rat) : Prop := SqT K H a [.int (qt r).1, .int (qt r).2]
/-! what is kept, with its share: a table by what is kept -/
abbrev Wt := List (List Int × Rat)
def kL (k : List Int) : List Key := k.map Sum.inl
theorem kL_inj {k l : List Int} : kL k = kL l ↔ k = l := by
  unfold kL
  constructor
  · intro h
    exact (List.map_inj_right (fun _ _ e => Sum.inl.inj e)).mp h
  · rintro rfl
    rfl
theorem kL_v (k : List Int) : (kL k).map kV = k.map V.int := by
  unfold kL
  rw [List.map_map]
  rfl
def evW (g : List Int → Rat) : Wt → Rat
  | [] => 0
  | z :: Z => z.2 * g z.1 + evW g Z
def addW : Wt → List Int → Rat → Wt
  | [], k, v => [(k, 0 + v)]
  | z :: Z, k, v => if z.1 = k then (z.1, z.2 + v) :: Z else z :: addW Z k v
theorem evW_add (g : List Int → Rat) : ∀ (Z : Wt) (k : List Int) (v : Rat), evW g (addW Z k v) = evW g Z + v * g k
  | [], k, v => by
    show (0 + v) * g k + 0 = 0 + v * g k
    grind
  | z :: Z, k, v => by
    have ih := evW_add g Z k v
    unfold addW
    split
    · rename_i c
      subst c
      show (z.2 + v) * g z.1 + evW g Z = z.2 * g z.1 + evW g Z + v * g z.1
      grind
    · show z.2 * g z.1 + evW g (addW Z k v) = z.2 * g z.1 + evW g Z + v * g k
      rw [ih]
      grind
theorem evW_snoc (g : List Int → Rat) : ∀ (Z : Wt) (z : List Int × Rat), evW g (Z ++ [z]) = evW g Z + z.2 * g z.1
  | [], z => by
    show z.2 * g z.1 + 0 = 0 + z.2 * g z.1
    grind
  | y :: Z, z => by
    show y.2 * g y.1 + evW g (Z ++ [z]) = y.2 * g y.1 + evW g Z + z.2 * g z.1
    rw [evW_snoc g Z z]
    grind
def rowsW (W : Wt) : Wt := W.foldl (fun Z w => addW Z w.1 w.2) []
theorem evW_rows (g : List Int → Rat) (W : Wt) : evW g (rowsW W) = evW g W := by
  have key : ∀ (W acc : Wt), evW g (W.foldl (fun Z w => addW Z w.1 w.2) acc) = evW g acc + evW g W := by
    intro W
    induction W with
    | nil => intro acc; show evW g acc = evW g acc + 0; grind
    | cons w W ih =>
      intro acc
      rw [List.foldl_cons, ih, evW_add]
      show _ = evW g acc + (w.2 * g w.1 + evW g W)
      grind
  have := key W []
  rw [show evW g ([] : Wt) = 0 from rfl] at this
  unfold rowsW
  rw [this]
  grind
/-- shares that can be summed up -/
structure GoodW (D : Int) (Z : Wt) : Prop where
  p : ∀ z ∈ Z, 0 ≤ z.2 ∧ isI (z.2 * D)
  s : evW (fun _ => 1) Z ≤ 1
theorem mem_addW : ∀ {Z : Wt} {k : List Int} {v : Rat} {z : List Int × Rat}, z ∈ addW Z k v → (∃ y ∈ Z, z.1 = y.1 ∧ (z.2 = y.2 ∨ z.2 = y.2 + v)) ∨ (z.1 = k ∧ z.2 = 0 + v)
  | [], k, v, z, h => by
    rw [addW, List.mem_singleton] at h
    exact .inr (by rw [h]; exact ⟨rfl, rfl⟩)
  | y :: Z, k, v, z, h => by
    unfold addW at h
    split at h
    · rcases List.mem_cons.mp h with rfl | h
      · exact .inl ⟨y, List.mem_cons_self, rfl, .inr rfl⟩
      · exact .inl ⟨z, List.mem_cons_of_mem _ h, rfl, .inl rfl⟩
    · rcases List.mem_cons.mp h with rfl | h
      · exact .inl ⟨_, List.mem_cons_self, rfl, .inl rfl⟩
      · rcases mem_addW h with ⟨w, hw, e⟩ | e
        · exact .inl ⟨w, List.mem_cons_of_mem _ hw, e⟩
        · exact .inr e
theorem keys_addW : ∀ {Z : Wt} {k : List Int} {v : Rat}, (addW Z k v).map (·.1) = if k ∈ Z.map (·.1) then Z.map (·.1) else Z.map (·.1) ++ [k]
  | [], k, v => rfl
  | y :: Z, k, v => by
    have ih := keys_addW (Z := Z) (k := k) (v := v)
    unfold addW
    split
    · rename_i c
      rw [List.map_cons, List.map_cons, if_pos (by rw [c]; exact List.mem_cons_self)]
    · rename_i c
      rw [List.map_cons, List.map_cons, ih]
      by_cases d : k ∈ Z.map (·.1)
      · rw [if_pos d, if_pos (List.mem_cons_of_mem _ d)]
      · rw [if_neg d, if_neg (by
          rw [List.mem_cons]
          rintro (z | z)
          · exact c z.symm
          · exact d z), List.cons_append]
theorem nd_addW {Z : Wt} {k : List Int} {v : Rat} (h : (Z.map (·.1)).Nodup) : ((addW Z k v).map (·.1)).Nodup := by
  rw [keys_addW]
  split
  · exact h
  · rename_i d
    rw [List.nodup_append]
    exact ⟨h, by simp, fun a ha b hb => by rw [List.mem_singleton.mp hb]; exact fun e => d (e ▸ ha)⟩
theorem len_addW {Z : Wt} {k : List Int} {v : Rat} : (addW Z k v).length ≤ Z.length + 1 := by
  have h := congrArg List.length (keys_addW (Z := Z) (k := k) (v := v))
  rw [List.length_map] at h
  rw [h]
  split
  · rw [List.length_map]; omega
  · rw [List.length_append, List.length_map]; exact Nat.le_refl _
theorem GoodW.part {D : Int} {Z : Wt} {g : List Int → Rat} (d0 : 0 < D) (d1 : D ≤ 2 ^ 900) (h : GoodW D Z) (hg : ∀ k, g k = 0 ∨ g k = 1) (i : Nat) : BdQ 990 (evW g (Z.take i)) := by
  have key : ∀ Y : Wt, (∀ z ∈ Y, 0 ≤ z.2 ∧ isI (z.2 * (D : Rat))) → 0 ≤ evW g Y ∧ evW g Y ≤ evW (fun _ => 1) Y ∧ isI (evW g Y * (D : Rat)) ∧ 0 ≤ evW (fun _ => 1) Y := fun Y => by
    induction Y with
    | nil =>
      intro _
      refine ⟨by show (0 : Rat) ≤ 0; grind, by show (0 : Rat) ≤ 0; grind, by show isI (0 * _); rw [Rat.zero_mul]; exact isI_0, by show (0 : Rat) ≤ 0; grind⟩
    | cons y Y ih =>
      intro hy
      obtain ⟨a1, a2, a3, a4⟩ := ih fun z hz => hy z (List.mem_cons_of_mem _ hz)
      obtain ⟨b1, b2⟩ := hy y List.mem_cons_self
      have e : evW g (y :: Y) = y.2 * g y.1 + evW g Y := rfl
      have e1 : evW (fun _ => 1) (y :: Y) = y.2 * 1 + evW (fun _ => 1) Y := rfl
      rw [e, e1]
      rcases hg y.1 with z | z
      · rw [z]
        refine ⟨by grind, by grind, ?_, by grind⟩
        have : (y.2 * 0 + evW g Y) * (D : Rat) = evW g Y * (D : Rat) := by grind
        rw [this]
        exact a3
      · rw [z]
        refine ⟨by grind, by grind, ?_, by grind⟩
        have : (y.2 * 1 + evW g Y) * (D : Rat) = y.2 * (D : Rat) + evW g Y * (D : Rat) := by grind
        rw [this]
        exact isI_add b2 a3
  obtain ⟨a1, a2, a3, a4⟩ := key (Z.take i) fun z hz => h.p z (List.mem_of_mem_take hz)
  have tl : evW (fun _ => 1) (Z.take i) ≤ evW (fun _ => 1) Z := by
    have hz := h.p
    clear h a1 a2 a3 a4
    induction Z generalizing i with
    | nil => rw [List.take_nil]; grind
    | cons z Z ih =>
      have k4 := (key (z :: Z) hz).2.2.2
      cases i with
      | zero => exact k4
      | succ i =>
        rw [List.take_succ_cons]
        have := ih i fun y hy => hz y (List.mem_cons_of_mem _ hy)
        show z.2 * 1 + evW (fun _ => 1) (Z.take i) ≤ z.2 * 1 + evW (fun _ => 1) Z
        grind
  have hs := h.s
  exact (bdq_isI d0 d1 a3 a1 (by grind)).mono (by decide)
theorem GoodW.le1 {D : Int} : ∀ {Z : Wt} {z : List Int × Rat}, (∀ z ∈ Z, 0 ≤ z.2) → z ∈ Z → z.2 ≤ evW (fun _ => 1) Z
  | y :: Z, z, h, hz => by
    have h0 : ∀ Y : Wt, (∀ z ∈ Y, 0 ≤ z.2) → 0 ≤ evW (fun _ => 1) Y := fun Y => by
      induction Y with
      | nil => intro _; show (0 : Rat) ≤ 0; grind
      | cons y Y ih =>
        intro h
        have h1 := ih fun z hz => h z (List.mem_cons_of_mem _ hz)
        have h2 := h y List.mem_cons_self
        show 0 ≤ y.2 * 1 + evW (fun _ => 1) Y
        grind
    have h1 := h0 Z fun z hz => h z (List.mem_cons_of_mem _ hz)
    have h2 := h y List.mem_cons_self
    show z.2 ≤ y.2 * 1 + evW (fun _ => 1) Z
    rcases List.mem_cons.mp hz with rfl | hz
    · grind
    · have := GoodW.le1 (D := D) (fun z hz => h z (List.mem_cons_of_mem _ hz)) hz
      grind
theorem GoodW.bd {D : Int} {Z : Wt} (d0 : 0 < D) (d1 : D ≤ 2 ^ 900) (h : GoodW D Z) {z : List Int × Rat} (hz : z ∈ Z) : BdQ 990 z.2 := by
  obtain ⟨a, b⟩ := h.p z hz
  have := GoodW.le1 (D := D) (fun y hy => (h.p y hy).1) hz
  have hs := h.s
  exact (bdq_isI d0 d1 b a (by grind)).mono (by decide)
theorem GoodW.rows {D : Int} {W : Wt} (h : GoodW D W) (i : Nat) (hi : i ≤ W.length) : GoodW D (rowsW (W.take i)) ∧ ((rowsW (W.take i)).map (·.1)).Nodup ∧ (rowsW (W.take i)).length ≤ i := by
  have key : ∀ i, i ≤ W.length → (∀ z ∈ rowsW (W.take i), 0 ≤ z.2 ∧ isI (z.2 * (D : Rat))) ∧ ((rowsW (W.take i)).map (·.1)).Nodup ∧ (rowsW (W.take i)).length ≤ i := by
    intro i
    induction i with
    | zero => intro _; rw [List.take_zero]; exact ⟨(fun _ z => nomatch z), .nil, Nat.le_refl _⟩
    | succ i ih =>
      intro hi
      obtain ⟨a, b, c⟩ := ih (by omega)
      have e : rowsW (W.take (i + 1)) = addW (rowsW (W.take i)) W[i].1 W[i].2 := by
        rw [show W.take (i + 1) = W.take i ++ [W[i]] by rw [List.take_succ, List.getElem?_eq_getElem (by omega)]; rfl]
        unfold rowsW
        rw [List.foldl_append]
        rfl
      rw [e]
      obtain ⟨w0, w1⟩ := h.p W[i] (List.getElem_mem _)
      refine ⟨fun z hz => ?_, nd_addW b, by have := len_addW (Z := rowsW (W.take i)) (k := W[i].1) (v := W[i].2); omega⟩
      rcases mem_addW hz with ⟨y, hy, _, e | e⟩ | ⟨_, e⟩
      · rw [e]; exact a y hy
      · obtain ⟨y0, y1⟩ := a y hy
        rw [e]
        exact ⟨by grind, by rw [Rat.add_mul]; exact isI_add y1 w1⟩
      · have e2 : 0 + W[i].2 = W[i].2 := by grind
        rw [e, e2]
        exact ⟨w0, w1⟩
  obtain ⟨a, b, c⟩ := key i hi
  refine ⟨⟨a, ?_⟩, b, c⟩
  rw [evW_rows]
  have hz := h.p
  have hs := h.s
  have tl : ∀ (W : Wt) (i : Nat), (∀ z ∈ W, 0 ≤ z.2) → evW (fun _ => 1) (W.take i) ≤ evW (fun _ => 1) W := by
    intro W
    induction W with
    | nil => intro i _; rw [List.take_nil]; grind
    | cons z Z ih =>
      intro i hz
      have h0 : ∀ Y : Wt, (∀ z ∈ Y, 0 ≤ z.2) → 0 ≤ evW (fun _ => 1) Y := fun Y => by
        induction Y with
        | nil => intro _; show (0 : Rat) ≤ 0; grind
        | cons y Y ih =>
          intro h
          have h1 := ih fun z hz => h z (List.mem_cons_of_mem _ hz)
          have h2 := h y List.mem_cons_self
          show 0 ≤ y.2 * 1 + evW (fun _ => 1) Y
          grind
      cases i with
      | zero => exact h0 _ hz
      | succ i =>
        rw [List.take_succ_cons]
        have := ih i fun y hy => hz y (List.mem_cons_of_mem _ hy)
        show z.2 * 1 + evW (fun _ => 1) (Z.take i) ≤ z.2 * 1 + evW (fun _ => 1) Z
        grind
  have := tl W i fun z hz' => (hz z hz').1
  grind
def RtP (K : PySem.W.Frag) (H : Hp) (kv : List Key × V) (z : List Int × Rat) : Prop := kv.1 = kL z.1 ∧ ∃ t, kv.2 = .ref t ∧ QtA K H t z.2
theorem RtP.keep {K : PySem.W.Frag} {H H' : Hp} {d : Addr} {us : List (List Key × V)} {kv : List Key × V} {z : List Int × Rat} (h : RtP K H kv z) (hd : H d = some (.dT us)) (k : ∀ b o, H b = some o → b ≠ d → H' b = some o) : RtP K H' kv z := by
  obtain ⟨e, t, e2, ht⟩ := h
  refine ⟨e, t, e2, ?_⟩
  rcases ht with (ht | ⟨o, ht⟩) | ht
  · exact .of (k _ _ ht fun z => by rw [z, hd] at ht; cases ht)
  · exact .inl (.inr ⟨o, k _ _ ht fun z => by rw [z, hd] at ht; cases ht⟩)
  · exact .inr ht
theorem RtP.same {K : PySem.W.Frag} {H H' : Hp} {kv : List Key × V} {z : List Int × Rat} (h : RtP K H kv z) (s : Same H H') : RtP K H' kv z := by
  obtain ⟨e, t, e2, ht⟩ := h
  exact ⟨e, t, e2, s.seqT ht⟩
def lookW : Wt → List Int → Rat
  | [], _ => 0
  | z :: Z, k => if z.1 = k then z.2 else lookW Z k
theorem lookW_at : ∀ {Z : Wt} {k : List Int}, k ∈ Z.map (·.1) → ∃ z ∈ Z, z.1 = k ∧ z.2 = lookW Z k
  | [], _, h => nomatch h
  | z :: Z, k, h => by
    unfold lookW
    by_cases c : z.1 = k
    · rw [if_pos c]
      exact ⟨z, List.mem_cons_self, c, rfl⟩
    · rw [if_neg c]
      rw [List.map_cons, List.mem_cons] at h
      obtain ⟨y, hy, e⟩ := lookW_at (h.resolve_left fun z => c z.symm)
      exact ⟨y, List.mem_cons_of_mem _ hy, e⟩
theorem rt_val {K : PySem.W.Frag} {H : Hp} {k : List Int} : ∀ {kvs : List (List Key × V)} {Z : Wt}, Paired (RtP K H) kvs Z → (valV kvs (kL k) = none ∧ k ∉ Z.map (·.1) ∧ lookW Z k = 0) ∨ ∃ t, valV kvs (kL k) = some (.ref t) ∧ QtA K H t (lookW Z k) ∧ k ∈ Z.map (·.1)
  | _, _, .nil => .inl ⟨rfl, (fun h => nomatch h), rfl⟩
  | _, _, .cons (a := p) (b := z) (l₁ := kvs) (l₂ := Z) h t => by
    obtain ⟨e, t0, e2, ht⟩ := h
    by_cases c : z.1 = k
    · refine .inr ⟨t0, ?_, ?_, ?_⟩
      · rw [valV_pos (by rw [e, c]), e2]
      · unfold lookW
        rw [if_pos c]
        exact ht
      · rw [List.map_cons, c]
        exact List.mem_cons_self
    · rw [valV_neg (fun y => c (by rw [e] at y; exact kL_inj.mp y))]
      have l : lookW (z :: Z) k = lookW Z k := by
        show (if z.1 = k then z.2 else lookW Z k) = _
        rw [if_neg c]
      rw [l]
      rcases rt_val t with ⟨h1, h2, h3⟩ | ⟨t1, h1, h2, h3⟩
      · refine .inl ⟨h1, fun y => ?_, h3⟩
        rw [List.map_cons, List.mem_cons] at y
        exact y.elim (fun y => c y.symm) h2
      · exact .inr ⟨t1, h1, h2, by rw [List.map_cons]; exact List.mem_cons_of_mem _ h3⟩
theorem addW_no : ∀ {Z : Wt} {k : List Int} {v : Rat}, k ∉ Z.map (·.1) → addW Z k v = Z ++ [(k, 0 + v)]
  | [], _, _, _ => rfl
  | z :: Z, k, v, h => by
    rw [List.map_cons, List.mem_cons] at h
    unfold addW
    rw [if_neg fun y => h (.inl y.symm), addW_no fun y => h (.inr y)]
    rfl
theorem addW_in : ∀ {Z : Wt} {k : List Int} {v : Rat}, (Z.map (·.1)).Nodup → k ∈ Z.map (·.1) → addW Z k v = Z.map fun z => if z.1 = k then (z.1, lookW Z k + v) else z
  | [], _, _, _, h => nomatch h
  | z :: Z, k, v, n, h => by
    rw [List.map_cons, List.nodup_cons] at n
    rw [List.map_cons, List.mem_cons] at h
    unfold addW
    by_cases c : z.1 = k
    · have l : lookW (z :: Z) k = z.2 := by
        show (if z.1 = k then z.2 else lookW Z k) = _
        rw [if_pos c]
      rw [if_pos c, List.map_cons, if_pos c, l]
      congr 1
      refine (List.map_id' Z).symm.trans (List.map_congr_left fun y hy => ?_)
      rw [if_neg fun e => n.1 (by rw [c, ← e]; exact List.mem_map_of_mem hy)]
    · have l : lookW (z :: Z) k = lookW Z k := by
        show (if z.1 = k then z.2 else lookW Z k) = _
        rw [if_neg c]
      rw [if_neg c, List.map_cons, if_neg c, l, addW_in n.2 (h.resolve_left fun y => c y.symm)]
theorem rt_put {K : PySem.W.Frag} {H : Hp} {k : List Int} {v : Rat} {t : Addr} {kvs : List (List Key × V)} {Z : Wt} (h : Paired (RtP K H) kvs Z) (n : (Z.map (·.1)).Nodup) (ht : QtA K H t (lookW Z k + v)) : Paired (RtP K H) (putK kvs (kL k) (.ref t)) (addW Z k v) := by
  have hv := rt_val (k := k) h
  unfold putK
  rw [valV_any]
  rcases hv with ⟨h1, h2, h3⟩ | ⟨t1, h1, h2, h3⟩
  · rw [h1, if_neg (by simp), addW_no h2]
    rw [h3] at ht
    exact paired_app h (.cons ⟨rfl, t, rfl, ht⟩ .nil)
  · rw [h1, if_pos (show (some (V.ref t1)).isSome = true from rfl), addW_in n h3]
    clear h1 h2 h3 n
    generalize lookW Z k + v = r at ht
    induction h with
    | nil => exact .nil
    | @cons p z kvs Z h1 _ ih =>
      rw [List.map_cons, List.map_cons]
      refine .cons ?_ ih
      obtain ⟨e, t0, e2, h2⟩ := h1
      by_cases c : z.1 = k
      · rw [if_pos c, if_pos (by rw [e, c])]
        exact ⟨e, t, rfl, ht⟩
      · rw [if_neg c, if_neg (fun y => c (by rw [e] at y; exact kL_inj.mp y))]
        exact ⟨e, t0, e2, h2⟩
theorem rt_len {K : PySem.W.Frag} {H : Hp} {kvs : List (List Key × V)} {Z : Wt} (h : Paired (RtP K H) kvs Z) : kvs.length = Z.length := Paired.length h
theorem inV_ints (n : Int) : ∀ ns : List Int, inV (.int n) (ns.map V.int) = decide (n ∈ ns)
  | [] => by simp [inV]
  | k :: ns => by
    have ih := inV_ints n ns
    unfold inV at ih ⊢
    rw [List.map_cons, List.any_cons, ih]
    by_cases e : n = k
    · subst e
      simp [eqV]
    · have e' : ¬ k = n := fun z => e z.symm
      simp [eqV, e, e']
theorem flat_ints : ∀ ns : List Int, (ns.map V.int).all flatV = true
  | [] => rfl
  | _ :: ns => by rw [List.map_cons, List.all_cons, flat_ints ns]; rfl
theorem L_inTi {K : PySem.W.Frag} {H : Hp} {Q : VK} {p : Addr} {z : Int} {ns : List Int} (h : SqT K H p (ns.map V.int)) (q : Q (.bl (decide (z ∈ ns))) H) : aIn K (.int z) (.ref p) H Q := .inr ⟨p, _, rfl, .inr h, rfl, flat_ints _, by rw [if_neg (by decide), inV_ints]; exact q⟩
/-! the ways of a tree, with their shares -/
def sidesT (ps : List (Int × Tr)) : Int := (ps.map (·.1)).sum
def waysQ : Nat → Tr → Rat → Wt
  | _, .leaf ks, r => [(ks, r)]
  | 0, .node _, _ => []
  | d + 1, .node ps, r => ps.flatMap fun y => waysQ d y.2 (r * ((y.1 : Rat) / sidesT ps))
/-- all its dice's sides, multiplied -/
def dnT : Nat → Tr → Int
  | _, .leaf _ => 1
  | 0, .node _ => 1
  | d + 1, .node ps => sidesT ps * (ps.map fun y => dnT d y.2).foldr (· * ·) 1
/-- its dice have sides, not too many -/
def OkW : Nat → Tr → Prop
  | _, .leaf _ => True
  | 0, .node _ => False
  | d + 1, .node ps => 0 < sidesT ps ∧ sidesT ps < 18446744073709551616 ∧ ∀ y ∈ ps, (0 ≤ y.1 ∧ y.1 ≤ sidesT ps) ∧ OkW d y.2
theorem waysQ_leaf {d : Nat} {ks : List Int} {r : Rat} : waysQ d (.leaf ks) r = [(ks, r)] := by cases d <;> rfl
theorem waysQ_node {d : Nat} {ps : List (Int × Tr)} {r : Rat} : waysQ (d + 1) (.node ps) r = ps.flatMap fun y => waysQ d y.2 (r * ((y.1 : Rat) / sidesT ps)) := rfl
theorem dnT_leaf {d : Nat} {ks : List Int} : dnT d (.leaf ks) = 1 := by cases d <;> rfl
def WayQ (K : PySem.W.Frag) (H : Hp) (v : V) (w : List Int × Rat) : Prop := ∃ q kp m, v = .ref q ∧ H q = some (.tup [.ref kp, .ref m]) ∧ H kp = some (.tup (w.1.map V.int)) ∧ QtA K H m w.2
theorem WayQ.ew {K : PySem.W.Frag} {mg : Str → Option Value} {T : List TX} {W : Addr → Prop} {H H' : Hp} {v : V} {w : List Int × Rat} (h : WayQ K H v w) (e : Ew mg T W H H') : WayQ K H' v w := by
  obtain ⟨q, kp, m, e1, h1, h2, h3⟩ := h
  exact ⟨q, kp, m, e1, e.tup h1, e.tup h2, e.seqT h3⟩
theorem WayQ.mu {K : PySem.W.Frag} {H : Hp} {v : V} {w : List Int × Rat} {D : Addr} {us : List V} {o : HO} (h : WayQ K H v w) (e : H D = some (.lst us)) : WayQ K (upd H D o) v w := by
  obtain ⟨q, kp, m, e1, h1, h2, h3⟩ := h
  exact ⟨q, kp, m, e1, upd_keep e h1 (fun _ z => nomatch z), upd_keep e h2 (fun _ z => nomatch z), sqT_upd e h3⟩
/-- only l may change -/
abbrev At1 (l : Addr) : Addr → Prop := fun b => b = l
theorem fr_qt {K : PySem.W.Frag} {H : Hp} {a : Addr} {r : Rat} (h : QtA K H a r) (hb : BdQ 3900 r) : Fr2 K H a (qt r).1 (qt r).2 := ⟨h, (by have := q_dp r; show 1 ≤ (r.den : Int); omega), hb.1, hb.2⟩
theorem part_ew {K : PySem.W.Frag} {mg : Str → Option Value} {j d : Nat} {W : Addr → Prop} {H H' : Hp} {u : V} {y : Int × Tr} (h : PartN K mg j d W H u y) (hw : ∀ b, W b → ∃ xs, H' b = some (.lst xs)) (e : Eg K mg W H H') : PartN K mg j d W H' u y := by
  obtain ⟨q, x, e1, h1, h2⟩ := h
  exact ⟨q, x, e1, e.tup h1, h2.ew (vol_same hw) e⟩
theorem paired_fst {F : (Int × Addr) → (Int × Tr) → Prop} : ∀ {ws : List (Int × Addr)} {ps : List (Int × Tr)}, Paired (fun w y => w.1 = y.1 ∧ F w y) ws ps → ws.map (·.1) = ps.map (·.1)
  | _, _, .nil => rfl
  | _, _, .cons h t => by rw [List.map_cons, List.map_cons, h.1, paired_fst t]
theorem take_flat {α β : Type} (f : α → List β) : ∀ (l : List α) (i : Nat), ((l.take i).flatMap f).length ≤ (l.flatMap f).length := fun l i => by
  conv => rhs; rw [← List.take_append_drop i l, List.flatMap_append, List.length_append]
  omega
def spq_leaves (D : Nat) (K : PySem.W.Frag) (mg : Str → Option Value) : Sp := fun vs H Q E => match vs with | [v, .ref mu, .ref l] => ∃ (d : Nat) (W : Addr → Prop) (t : Tr) (r : Rat) (n : Nat) (vs : List V) (es : Wt), d ≤ D ∧ NodeAt K mg 60 d W t v H ∧ W l ∧ (∀ b, W b → ∃ xs, H b = some (.lst xs)) ∧ Tb K mg H ∧ OkW d t ∧ QtA K H mu r ∧ BdQ n r ∧ n + 64 * d ≤ 3900 ∧ H l = some (.lst vs) ∧ Paired (WayQ K H) vs es ∧ es.length ≤ 4096 ∧   (es.length + (waysQ d t r).length ≤ 4096 → ∀ H' vs', Eg K mg (At1 l) H H' → H' l = some (.lst vs') → Paired (WayQ K H') vs' (es ++ waysQ d t r) → Q .non H') ∧ (4096 < es.length + (waysQ d t r).length → ∀ H', Eg K mg (At1 l) H H' → E (.ref (cA mg "TooMany")) none H') | _ => False
def spr_leaves : Nat → PySem.W.Frag → (Str → Option Value) → Sp
  | 0, _, _ => SpF
  | D + 1, K, mg => spq_leaves D K mg
abbrev sp_leaves (K : PySem.W.Frag) (mg : Str → Option Value) : Sp := spr_leaves 41 K mg
structure Grp_L (P : Program) (w : World) (K : PySem.W.Frag) (mg : Str → Option Value) (base : Heap) (n : Nat) : Prop where
  g_leaves : CalX P w K mg base (61 + n) "leaves" (spr_leaves n K mg)
theorem st_leaves (T : Txt K mg base) (D : Nat) (ih : Grp_L P w K mg base D) : CalX P w K mg base (61 + D + 1) "leaves" (spr_leaves (D + 1) K mg) := by
  refine T.d_leaves.calX (k := 61 + D) sc_leaves (by intro vs H Q E h; replace h : spq_leaves D K mg vs H Q E := h; unfold spq_leaves at h; split at h <;> first | rfl | exact h.elim) fun f cdv A outer s H vs Q E hr h => ?_
  refine ⟨_, (pss_cons (ps_if (pt_val (PE.or (pe_mt0 (c_Told_is_told T) hr (by omega) (pv 0)) (pe_mt0 (c_Die_is_told T) hr (by omega) (pv 0))))
    (pss_cons (ps_if (pt_cmpR op_ge (pe_callB call_lenA (by rfl) T.n_len (by decide +kernel) (pa_cons (pv 2) pa_nil)) (pe_gc (by rfl) T.g_MOST_WAYS) (nomark _))
    (pss_one (ps_raise rfl (takes_of rfl rfl rfl rfl) (pmk_own0 T.x_TooMany T.m_TooMany (by rfl))))
    pss_nil)
    (pss_cons (ps_expr (pe_bm PySem.F.plainAttrs_list PySem.F.slot_list_append PySem.F.type_list_append mt_append (pv 2) (pa_cons (pe_tup (pa_cons (pe_mt0 (c_Told_kept T) hr (by omega) (pv 0)) (pa_cons (pv 1) pa_nil))) pa_nil)))
    (pss_one ps_retN)))
    pss_nil)
    (pss_cons (ps_set (i := 3) sc_leaves.nd rfl (.inl rfl) (pe_mt0 (c_Die_sides T) hr (by omega) (pv 0)))
    (pss_one (ps_for (passes_of rfl) rfl (pi_list (pe_mt0 (c_Die_parts T (60)) hr (by omega) (pv 0))) (pg_tup rfl (pgs_cons (pg_name (i := 4) sc_leaves.nd rfl (.inl rfl)) (pgs_cons (pg_name (i := 5) sc_leaves.nd rfl (.inl rfl)) pgs_nil)))
    (pss_one (ps_expr (pe_xS ih.g_leaves hr (by omega) (by rfl) (fun σ => passAt (takes_of rfl rfl rfl rfl) σ) (pa_cons (pv 5) (pa_cons (pe_c (c_times T) hr (by omega) (by rfl) (pa_cons (pv 1) (pa_cons (pe_c (c_share T) hr (by omega) (by rfl) (pa_cons (pv 4) (pa_cons (pv 3) pa_nil))) pa_nil))) (pa_cons (pv 2) pa_nil)))))))))), ?_⟩
  try simp only [cxOf_K, cxOf_K', cxOf_mg, cxOf_mg']
  replace h : spq_leaves D K mg vs H Q E := h
  unfold spq_leaves at h
  split at h
  case h_2 => exact h.elim
  rename_i v mu l
  rw [show L2.start ["node", "much", "found", "sides", "many", "behind_it"] [v, V.ref mu, V.ref l] = [some (v), some (V.ref mu), some (V.ref l), none, none, none] from rfl]
  obtain ⟨d, W, t, r, n, vs, es, hd, hn, hWl, hW, hT, hok, hmu, hbr, hnd, hl, hes, hel, q1, q2⟩ := h
  have hvl := Paired.length hes
  match d, t, hn, hok, q1, q2, hd, hnd with
  | d, .leaf ks, hn, hok, q1, q2, hd, hnd =>
    obtain ⟨a, dx, p, rfl, h1, h2⟩ := leaf_node hn
    rw [waysQ_leaf] at q1 q2
    walk_at "sts"
    refine L_orl ?_
    walk_at "sts"
    refine L_methv h1 rfl ?_
    walk_at "sts"
    refine L_lenL (.of hl) ?_
    walk_at "sts"
    refine L_d (fun c => ?_) (fun c => ?_)
    · walk_at "sts"
      exact q2 (by simp only [List.length_singleton]; omega) H .refl
    · walk_at "sts"
      refine L_tyL (.of hl) ?_
      walk_at "sts"
      refine L_methv h1 rfl ?_
      walk_at "sts"
      refine ⟨dx, p, h1, ?_⟩
      walk_at "sts"
      walk_at "nw"
      rename_i p1 hp1 H1 s1 e1
      have hl1 := s1 _ _ hl
      walk_at "sts"
      refine L_app hl1 (sz_lt (by omega)) ?_
      walk_at "sts"
      refine q1 (by simp only [List.length_singleton]; omega) _ _ ((Ew.same s1).mut (.inl rfl) hl1) upd_same ?_
      exact paired_app (paired_imp2 (fun _ _ h => (h.ew (.same s1 : Eg K mg No _ _)).mu hl1) hes) (.cons (WayQ.mu ⟨p1, p, mu, rfl, e1, s1 _ _ h2, s1.seqT hmu⟩ hl1) .nil)
  | 0, .node ps, hn, hok, q1, q2, hd, hnd => exact hn.elim
  | d + 1, .node ps, hn, hok, q1, q2, hd, hnd =>
    obtain ⟨sp, sb, hps⟩ := hok
    rw [waysQ_node] at q1 q2
    have hn' := hn
    obtain ⟨a, dx, p, us, ws, rfl, h1, h2, h3, h4, h5⟩ := hn'
    have hws : (ws.map (·.1)).sum = sidesT ps := by
      unfold sidesT
      rw [paired_fst h5]
    walk_at "sts"
    refine L_orr ?_
    walk_at "sts"
    refine L_methv h1 rfl ?_
    walk_at "sts"
    refine L_methv h1 rfl ?_
    walk_at "sts"
    refine ⟨dx, p, us, ws, h1, h2, h4, h3, fun H1 s1 => ?_⟩
    rw [hws]
    have ev1 : Eg K mg W H H1 := .same s1
    have hW1 : ∀ b, W b → ∃ xs, H1 b = some (.lst xs) := fun b hb => let ⟨xs, h⟩ := hW b hb; ⟨xs, s1 _ _ h⟩
    walk_at "sts"
    refine L_methv (s1 _ _ h1) rfl ?_
    walk_at "sts"
    refine ⟨d, W, ps, hn.ew (vol_same hW1) ev1, ev1.tb hT, hW1, fun p1 H2 ys hp1 ev2 e2 hW2 hP => ?_⟩
    have ev12 : Eg K mg No H H2 := (Ew.same s1).trans ev2
    have yl := Paired.length hP
    have n1l : p1 ≠ l := fun z => by rw [z, s1 _ _ hl] at hp1; cases hp1
    refine L_rl (.of e2) ?_
    refine f_it walk_list (fun i σ' H' => ∃ (vs' : List V) (v4 v5 : Option V), σ' = [some (.ref a), some (.ref mu), some (.ref l), some (.int (sidesT ps)), v4, v5] ∧ Eg K mg (At1 l) H H' ∧ H' p1 = some (.lst ys) ∧ H' l = some (.lst vs') ∧ (∀ b, Or1 W p1 b → ∃ xs, H' b = some (.lst xs)) ∧ Paired (PartN K mg 60 d (Or1 W p1) H') ys ps ∧ Paired (WayQ K H') vs' (es ++ (ps.take i).flatMap fun y => waysQ d y.2 (r * ((y.1 : Rat) / sidesT ps))) ∧ vs'.length ≤ 4096) ⟨vs, _, _, rfl, ev12.no, e2, ev12.lst0 hl, hW2, hP, ?_, by omega⟩ (fun _ _ _ _ ⟨_, _, _, _, _, e, _⟩ => .of e) ?_ ?_
    · rw [List.take_zero, List.flatMap_nil, List.append_nil]
      exact paired_imp2 (fun _ _ h => h.ew ev12) hes
    · rintro i x σ' Hy H3 hi ⟨vs', v4, v5, rfl, ev3, f3, g3, hW3, hP3, hV3, hl3⟩ ⟨rfl, hx⟩
      obtain ⟨y, hy, q0, z, rfl, hq0, atz⟩ := paired_nth hP3 hx
      have hym := List.mem_of_getElem? hy
      obtain ⟨⟨y0, y1⟩, oky⟩ := hps y hym
      refine L_gTup (.of hq0) rfl ?_
      walk_at "sts"
      have bS : Bd 64 (sidesT ps) := by unfold Bd; omega
      have bY : Bd 64 y.1 := by unfold Bd; omega
      have elow : shr y.1 (sidesT ps) = qt ((y.1 : Rat) / sidesT ps) := shr_qt (by omega) rfl
      rw [elow]
      refine ⟨by omega, bS.mono (by decide), fun p5 H5 hp5 s5 e5 => ?_⟩
      have brat : BdQ 64 ((y.1 : Rat) / sidesT ps) := bdq_of (by omega) rfl bY bS
      have hmu5 : QtA K H5 mu r := s5.seqT (ev3.seqT hmu)
      walk_at "sts"
      refine ⟨_, _, _, _, fr_qt hmu5 (hbr.mono (by omega)), fr_qt (r := (y.1 : Rat) / sidesT ps) (.of e5) (brat.mono (by decide)), fun p6 H6 hp6 s6 e6 => ?_⟩
      rw [q_mul] at e6
      have s56 := s5.trans s6
      have ev36 : Eg K mg No H3 H6 := .same s56
      have hW6 : ∀ b, Or1 W p1 b → ∃ xs, H6 b = some (.lst xs) := fun b hb => let ⟨xs, h⟩ := hW3 b hb; ⟨xs, s56 _ _ h⟩
      have hlen := Paired.length hV3
      have tkn : (ps.take (i + 1)).flatMap (fun y => waysQ d y.2 (r * ((y.1 : Rat) / sidesT ps))) = (ps.take i).flatMap (fun y => waysQ d y.2 (r * ((y.1 : Rat) / sidesT ps))) ++ waysQ d y.2 (r * ((y.1 : Rat) / sidesT ps)) := by
        rw [show ps.take (i + 1) = ps.take i ++ [y] by rw [List.take_succ, hy]; rfl, List.flatMap_append]
        simp
      have tot : ((ps.take (i + 1)).flatMap (fun y => waysQ d y.2 (r * ((y.1 : Rat) / sidesT ps)))).length ≤ (ps.flatMap (fun y => waysQ d y.2 (r * ((y.1 : Rat) / sidesT ps)))).length := take_flat _ _ _
      rw [tkn, List.length_append] at tot
      rw [List.length_append] at hlen
      have ht1 : Or1 W p1 l := .inl hWl
      walk_at "sts"
      obtain ⟨D', rfl⟩ : ∃ D', D = D' + 1 := ⟨D - 1, by omega⟩
      refine ⟨d, Or1 W p1, y.2, _, n + 64, vs', _, by omega, atz.ew (vol_same hW6) (ev36.no), .inl hWl, hW6, (ev3.trans ev36.no).tb hT, oky, .of e6, bdq_mul hbr brat, by omega, s56 _ _ g3, paired_imp2 (fun _ _ h => h.ew ev36) hV3, by rw [List.length_append]; omega, fun hc H7 vs7 ev7 e7 hV7 => ?_, fun hc H7 ev7 => ?_⟩
      · have hW7 : ∀ b, Or1 W p1 b → ∃ xs, H7 b = some (.lst xs) := fun b hb => by
          by_cases cb : b = l
          · rw [cb]; exact ⟨_, e7⟩
          · obtain ⟨xs, h⟩ := hW6 b hb
            exact ⟨xs, ev7.lst cb h⟩
        have ev37 : Eg K mg (At1 l) H3 H7 := ev36.no.trans ev7
        have l7 := Paired.length hV7
        rw [List.append_assoc, ← tkn] at hV7
        walk_at "sts"
        refine ⟨vs7, _, _, rfl, ev3.trans ev37, ev37.lst n1l f3, e7, hW7, paired_imp2 (fun _ _ h => part_ew h hW7 (ev37.up fun b hb => .inl (by rw [show b = l from hb]; exact hWl))) hP3, hV7, ?_⟩
        rw [l7, List.length_append, List.length_append]
        rw [List.length_append] at hc
        exact hc
      · rw [List.length_append] at hc
        exact q2 (by omega) H7 ((ev3.trans ev36.no).trans ev7)
    · rintro σ' H3 ⟨vs', v4, v5, rfl, ev3, f3, g3, hW3, hP3, hV3, hl3⟩
      rw [yl, List.take_length] at hV3
      have hl4 := Paired.length hV3
      rw [List.length_append] at hl4
      walk_at "sts"
      exact q1 (by omega) H3 vs' ev3 g3 hV3
theorem grp_L (T : Txt K mg base) : ∀ D : Nat, Grp_L P w K mg base D
  | 0 => ⟨T.d_leaves.calX0'⟩
  | D + 1 => ⟨st_leaves T D (grp_L T D)⟩
theorem c_leaves (T : Txt K mg base) : CalX P w K mg base (102) "leaves" (sp_leaves K mg) := (grp_L T 41).g_leaves
/-! the ways of a tree: shares that come to one, with a bottom in common -/
theorem GoodW.bdk {D : Int} {Z : Wt} {k : Nat} (d0 : 0 < D) (d1 : D ≤ 2 ^ k) (h : GoodW D Z) {z : List Int × Rat} (hz : z ∈ Z) : BdQ (k + 1) z.2 := by
  obtain ⟨a, b⟩ := h.p z hz
  have := GoodW.le1 (D := D) (fun y hy => (h.p y hy).1) hz
  have hs := h.s
  exact bdq_isI d0 d1 b a (by grind)
theorem evW_app (g : List Int → Rat) : ∀ (A B : Wt), evW g (A ++ B) = evW g A + evW g B
  | [], B => by
    show evW g B = 0 + evW g B
    grind
  | a :: A, B => by
    show a.2 * g a.1 + evW g (A ++ B) = a.2 * g a.1 + evW g A + evW g B
    rw [evW_app g A B]
    grind
theorem dnT_pos : ∀ {d : Nat} {t : Tr}, OkW d t → 0 < dnT d t
  | d, .leaf ks, _ => by rw [dnT_leaf]; decide
  | 0, .node ps, h => h.elim
  | d + 1, .node ps, h => by
    obtain ⟨h1, h2, h3⟩ := h
    refine Int.mul_pos h1 ?_
    have key : ∀ qs : List (Int × Tr), (∀ y ∈ qs, OkW d y.2) → 0 < (qs.map fun y => dnT d y.2).foldr (· * ·) 1 := fun qs => by
      induction qs with
      | nil => intro _; exact Int.one_pos
      | cons q qs ih =>
        intro hq
        exact Int.mul_pos (dnT_pos (hq q List.mem_cons_self)) (ih fun y hy => hq y (List.mem_cons_of_mem _ hy))
    exact key ps fun y hy => (h3 y hy).2
theorem dn_mem {d : Nat} {y : Int × Tr} : ∀ {qs : List (Int × Tr)}, y ∈ qs → ∃ c : Int, (qs.map fun y => dnT d y.2).foldr (· * ·) 1 = dnT d y.2 * c
  | q :: qs, h => by
    rcases List.mem_cons.mp h with rfl | h
    · exact ⟨_, rfl⟩
    · obtain ⟨c, e⟩ := dn_mem (d := d) h
      refine ⟨dnT d q.2 * c, ?_⟩
      show dnT d q.2 * (qs.map fun y => dnT d y.2).foldr (· * ·) 1 = _
      rw [e, ← Int.mul_assoc, ← Int.mul_assoc, Int.mul_comm (dnT d q.2)]
theorem ways_p : ∀ {d : Nat} {t : Tr}, OkW d t → ∀ (r : Rat) (z : List Int × Rat), z ∈ waysQ d t r → ∃ s : Rat, z.2 = r * s ∧ 0 ≤ s ∧ isI (s * (dnT d t : Rat))
  | d, .leaf ks, _, r, z, hz => by
    rw [waysQ_leaf, List.mem_singleton] at hz
    subst hz
    refine ⟨1, by show r = r * 1; grind, by decide, ?_⟩
    rw [dnT_leaf]
    exact ⟨1, by rw [Rat.one_mul]⟩
  | 0, .node ps, h, _, _, _ => h.elim
  | d + 1, .node ps, h, r, z, hz => by
    obtain ⟨h1, h2, h3⟩ := h
    rw [waysQ_node, List.mem_flatMap] at hz
    obtain ⟨y, hy, hz⟩ := hz
    obtain ⟨⟨y0, y1⟩, ok⟩ := h3 y hy
    obtain ⟨s, e1, s0, si⟩ := ways_p ok _ z hz
    obtain ⟨c, hc⟩ := dn_mem (d := d) hy
    have hS := iq_pos h1
    have y0q : (0 : Rat) ≤ (y.1 : Rat) := Rat.intCast_nonneg.mpr y0
    refine ⟨(y.1 : Rat) / sidesT ps * s, by rw [e1]; grind, Rat.mul_nonneg (div_nn y0q hS) s0, ?_⟩
    have e : dnT (d + 1) (.node ps) = sidesT ps * (dnT d y.2 * c) := by rw [← hc]; rfl
    rw [e, Rat.intCast_mul, Rat.intCast_mul]
    have e2 : (y.1 : Rat) / sidesT ps * s * ((sidesT ps : Rat) * ((dnT d y.2 : Rat) * (c : Rat))) = (y.1 : Rat) * (s * (dnT d y.2 : Rat)) * (c : Rat) := by
      generalize (sidesT ps : Rat) = S at *
      grind
    rw [e2]
    exact isI_mul (isI_mul (isI_int _) si) (isI_int _)
theorem ways_s : ∀ {d : Nat} {t : Tr}, OkW d t → ∀ (r : Rat), evW (fun _ => 1) (waysQ d t r) = r
  | d, .leaf ks, _, r => by
    rw [waysQ_leaf]
    show r * 1 + 0 = r
    grind
  | 0, .node ps, h, _ => h.elim
  | d + 1, .node ps, h, r => by
    obtain ⟨h1, h2, h3⟩ := h
    rw [waysQ_node]
    have hS := iq_pos h1
    have key : ∀ qs : List (Int × Tr), (∀ y ∈ qs, OkW d y.2) → evW (fun _ => 1) (qs.flatMap fun y => waysQ d y.2 (r * ((y.1 : Rat) / sidesT ps))) = r * ((sidesT qs : Rat) / sidesT ps) := fun qs => by
      generalize (sidesT ps : Rat) = S at hS ⊢
      induction qs with
      | nil =>
        intro _
        show (0 : Rat) = r * (((0 : Int) : Rat) / S)
        have : ((0 : Int) : Rat) = 0 := rfl
        rw [this]
        grind
      | cons q qs ih =>
        intro hq
        rw [List.flatMap_cons, evW_app, ih fun y hy => hq y (List.mem_cons_of_mem _ hy), ways_s (hq q List.mem_cons_self)]
        have : sidesT (q :: qs) = q.1 + sidesT qs := by unfold sidesT; rw [List.map_cons, List.sum_cons]
        rw [this, Rat.intCast_add]
        grind
    rw [key ps fun y hy => (h3 y hy).2]
    generalize (sidesT ps : Rat) = S at *
    grind
theorem good_ways {d : Nat} {t : Tr} (h : OkW d t) : GoodW (dnT d t) (waysQ d t 1) := by
  refine ⟨fun z hz => ?_, by rw [ways_s h]; grind⟩
  obtain ⟨s, e, s0, si⟩ := ways_p h 1 z hz
  have : z.2 = s := by rw [e]; grind
  rw [this]
  exact ⟨s0, si⟩
theorem ew_at1 {mg : Str → Option Value} {T : List TX} {f : Addr} {H H' : Hp} (e : Ew mg T (At1 f) H H') (hf : H f = none) : Ew mg T No H H' := ⟨fun b o hb n m => e.ex b o hb n fun w => (by rw [show b = f from w, hf] at hb; cases hb), e.dm, e.tb, e.it⟩
/-- sorted by what is kept -/
structure SrtOf (Z S : Wt) : Prop where
  p : S.Perm Z
  s : (S.map (·.1)).Pairwise fun x y => HT.lexLt y x = false
theorem lex_anti : ∀ {x y : List Int}, HT.lexLt x y = false → HT.lexLt y x = false → x = y
  | [], [], _, _ => rfl
  | [], _ :: _, h, _ => by rw [HT.lexLt_nil_cons] at h; cases h
  | _ :: _, [], _, h => by rw [HT.lexLt_nil_cons] at h; cases h
  | a :: x, b :: y, h1, h2 => by
    rw [HT.lexLt_cons] at h1 h2
    by_cases e : a = b
    · rw [if_pos e] at h1
      rw [if_pos e.symm] at h2
      rw [e, lex_anti h1 h2]
    · rw [if_neg e] at h1
      rw [if_neg (Ne.symm e)] at h2
      have := of_decide_eq_false h1
      have := of_decide_eq_false h2
      omega
theorem key_inj {Z : Wt} (nd : (Z.map (·.1)).Nodup) : ∀ {a b : List Int × Rat}, a ∈ Z → b ∈ Z → a.1 = b.1 → a = b := by
  induction Z with
  | nil => intro a b h; cases h
  | cons z Z ih =>
    rw [List.map_cons, List.nodup_cons] at nd
    intro a b ha hb e
    rcases List.mem_cons.mp ha with h1 | h1
    · rcases List.mem_cons.mp hb with h2 | h2
      · rw [h1, h2]
      · exact (nd.1 (by rw [← h1, e]; exact List.mem_map_of_mem h2)).elim
    · rcases List.mem_cons.mp hb with h2 | h2
      · exact (nd.1 (by rw [← h2, ← e]; exact List.mem_map_of_mem h1)).elim
      · exact ih nd.2 h1 h2 e
theorem srt_uniq {Z A B : Wt} (nd : (Z.map (·.1)).Nodup) (ha : SrtOf Z A) (hb : SrtOf Z B) : A = B := by
  refine (ha.p.trans hb.p.symm).eq_of_pairwise (le := fun a b => HT.lexLt b.1 a.1 = false) (fun a b h1 h2 h3 h4 => key_inj nd (ha.p.mem_iff.mp h1) (hb.p.mem_iff.mp h2) (lex_anti h4 h3)) ?_ ?_
  · have := ha.s
    rw [List.pairwise_map] at this
    exact this
  · have := hb.s
    rw [List.pairwise_map] at this
    exact this
theorem good_nd {D : Int} {W : Wt} (h : GoodW D W) : ((rowsW W).map (·.1)).Nodup := by
  have := (h.rows W.length (Nat.le_refl _)).2.1
  rw [List.take_length] at this
  exact this
theorem look_mem {Z : Wt} (nd : (Z.map (·.1)).Nodup) {z : List Int × Rat} (hz : z ∈ Z) : lookW Z z.1 = z.2 := by
  obtain ⟨y, hy, e1, e2⟩ := lookW_at (List.mem_map_of_mem hz : z.1 ∈ Z.map (·.1))
  rw [← e2, key_inj nd hy hz e1]
/-- an entry of the dict: its share a tuple of its own -/
def RtN (H : Hp) (kv : List Key × V) (z : List Int × Rat) : Prop := kv.1 = kL z.1 ∧ ∃ t, kv.2 = .ref t ∧ H t = some (.tup [.int (qt z.2).1, .int (qt z.2).2])
theorem RtN.rtP {K : PySem.W.Frag} {H : Hp} {kv : List Key × V} {z : List Int × Rat} (h : RtN H kv z) : RtP K H kv z := by
  obtain ⟨e, t, e2, ht⟩ := h
  exact ⟨e, t, e2, .of ht⟩
theorem RtN.same {H H' : Hp} {kv : List Key × V} {z : List Int × Rat} (h : RtN H kv z) (s : Same H H') : RtN H' kv z := by
  obtain ⟨e, t, e2, ht⟩ := h
  exact ⟨e, t, e2, s _ _ ht⟩
theorem RtN.keep {H H' : Hp} {d : Addr} {us : List (List Key × V)} {kv : List Key × V} {z : List Int × Rat} (h : RtN H kv z) (hd : H d = some (.dT us)) (k : ∀ b o, H b = some o → b ≠ d → H' b = some o) : RtN H' kv z := by
  obtain ⟨e, t, e2, ht⟩ := h
  exact ⟨e, t, e2, k _ _ ht fun z => by rw [z, hd] at ht; cases ht⟩
theorem rtn_put (K : PySem.W.Frag) {H : Hp} {k : List Int} {v : Rat} {t : Addr} {kvs : List (List Key × V)} {Z : Wt} (h : Paired (RtN H) kvs Z) (n : (Z.map (·.1)).Nodup) (ht : H t = some (.tup [.int (qt (lookW Z k + v)).1, .int (qt (lookW Z k + v)).2])) : Paired (RtN H) (putK kvs (kL k) (.ref t)) (addW Z k v) := by
  have hv := rt_val (K := K) (k := k) (paired_imp2 (fun _ _ h => h.rtP) h)
  unfold putK
  rw [valV_any]
  rcases hv with ⟨h1, h2, h3⟩ | ⟨t1, h1, h2, h3⟩
  · rw [h1, if_neg (by simp), addW_no h2]
    rw [h3] at ht
    exact paired_app h (.cons ⟨rfl, t, rfl, ht⟩ .nil)
  · rw [h1, if_pos (show (some (V.ref t1)).isSome = true from rfl), addW_in n h3]
    clear h1 h2 h3 n
    generalize lookW Z k + v = r at ht
    induction h with
    | nil => exact .nil
    | @cons p z kvs Z h1 _ ih =>
      rw [List.map_cons, List.map_cons]
      refine .cons ?_ ih
      obtain ⟨e, t0, e2, h2⟩ := h1
      by_cases c : z.1 = k
      · rw [if_pos c, if_pos (by rw [e, c])]
        exact ⟨e, t, rfl, ht⟩
      · rw [if_neg c, if_neg (fun y => c (by rw [e] at y; exact kL_inj.mp y))]
        exact ⟨e, t0, e2, h2⟩
theorem rtn_ks {H : Hp} : ∀ {kvs : List (List Key × V)} {Z : Wt}, Paired (RtN H) kvs Z → ∃ ks : List (List Int × Addr), kvs = ks.map entI ∧ Paired (fun (e : List Int × Addr) (z : List Int × Rat) => e.1 = z.1 ∧ H e.2 = some (.tup [.int (qt z.2).1, .int (qt z.2).2])) ks Z
  | _, _, .nil => ⟨[], rfl, .nil⟩
  | _, _, .cons (a := kv) (b := z) h t => by
    obtain ⟨ks, e, hp⟩ := rtn_ks t
    obtain ⟨e1, t0, e2, ht⟩ := h
    refine ⟨(z.1, t0) :: ks, ?_, .cons ⟨rfl, ht⟩ hp⟩
    rw [List.map_cons, ← e]
    congr 1
    exact Prod.ext e1 e2
theorem paired_self {α β γ : Type} {F : β → γ → Prop} {f : α → β} {g : α → γ} : ∀ {l : List α}, (∀ x ∈ l, F (f x) (g x)) → Paired F (l.map f) (l.map g)
  | [], _ => .nil
  | a :: l, h => .cons (h a List.mem_cons_self) (paired_self fun x hx => h x (List.mem_cons_of_mem _ hx))
theorem paired_map_eq {α β γ : Type} {F : α → β → Prop} {f : α → γ} {g : β → γ} : ∀ {l : List α} {m : List β}, Paired F l m → (∀ a b, b ∈ m → F a b → f a = g b) → l.map f = m.map g
  | _, _, .nil, _ => rfl
  | _, _, .cons h t, k => by rw [List.map_cons, List.map_cons, k _ _ List.mem_cons_self h, paired_map_eq t fun a b hb => k a b (List.mem_cons_of_mem _ hb)]
theorem paired_memL {α β : Type} {F : α → β → Prop} : ∀ {l : List α} {m : List β} {a : α}, Paired F l m → a ∈ l → ∃ b ∈ m, F a b
  | _, _, _, .cons h t, ha => by
    rcases List.mem_cons.mp ha with rfl | ha
    · exact ⟨_, List.mem_cons_self, h⟩
    · obtain ⟨b, hb, e⟩ := paired_memL t ha
      exact ⟨b, List.mem_cons_of_mem _ hb, e⟩
theorem paired_memR' {α β : Type} {F : α → β → Prop} : ∀ {l : List α} {m : List β} {b : β}, Paired F l m → b ∈ m → ∃ a ∈ l, F a b
  | _, _, _, .cons h t, ha => by
    rcases List.mem_cons.mp ha with rfl | ha
    · exact ⟨_, List.mem_cons_self, h⟩
    · obtain ⟨b, hb, e⟩ := paired_memR' t ha
      exact ⟨b, List.mem_cons_of_mem _ hb, e⟩
/-- what the sort tells is the table, sorted -/
theorem srt_ps {Z : Wt} (nd : (Z.map (·.1)).Nodup) {ks : List (List Int × Addr)} {ps : List (Addr × List Int × Addr)} {H : Hp} (hk : Paired (fun (e : List Int × Addr) (z : List Int × Rat) => e.1 = z.1 ∧ H e.2 = some (.tup [.int (qt z.2).1, .int (qt z.2).2])) ks Z) (hp : (ps.map (·.2)).Perm ks)
    (hs : (ps.map (·.2.1)).Pairwise fun x y => HT.lexLt y x = false) : SrtOf Z (ps.map fun z => (z.2.1, lookW Z z.2.1)) ∧ ∀ z ∈ ps, H z.2.2 = some (.tup [.int (qt (lookW Z z.2.1)).1, .int (qt (lookW Z z.2.1)).2]) := by
  have ez : ks.map (fun e => (e.1, lookW Z e.1)) = Z := by
    have := paired_map_eq (f := fun e : List Int × Addr => (e.1, lookW Z e.1)) (g := id) hk fun a b hb h => by
      rw [h.1, look_mem nd hb]
      rfl
    rw [this, List.map_id]
  refine ⟨⟨?_, ?_⟩, fun z hz => ?_⟩
  · have := hp.map (fun e : List Int × Addr => (e.1, lookW Z e.1))
    rw [ez, List.map_map] at this
    exact this
  · rw [List.map_map]
    exact hs
  · have : z.2 ∈ ks := hp.mem_iff.mp (List.mem_map_of_mem hz)
    obtain ⟨b, hb, e1, e2⟩ := paired_memL hk this
    rw [e1, look_mem nd hb]
    exact e2
theorem L_itemsD {K : PySem.W.Frag} {H : Hp} {d : Addr} {kvs : List (List Key × V)} {Q : VK} (h : H d = some (.dT kvs)) (q : ∀ p, H p = none → Q (.ref p) (upd H p (DX.itemsO p d))) : tyV K "dict" (.ref d) H ∧ DX.rItemsT (.ref d) [] H Q := ⟨.inr (.inr (.inl ⟨rfl, .inr ⟨kvs, h⟩⟩)), d, kvs, rfl, rfl, h, q⟩
def sp_table (K : PySem.W.Frag) (mg : Str → Option Value) : Sp := fun vs H Q E => match vs with | [v] => ∃ (d : Nat) (W : Addr → Prop) (t : Tr) (B : Int), d ≤ 40 ∧ NodeAt K mg 60 d W t v H ∧ (∀ b, W b → ∃ xs, H b = some (.lst xs)) ∧ Tb K mg H ∧ OkW d t ∧ 0 < B ∧ B ≤ 2 ^ 3800 ∧ (∀ w ∈ waysQ d t 1, isI (w.2 * (B : Rat))) ∧   ((waysQ d t 1).length ≤ 4096 → ∀ p H' us S, H p = none → Eg K mg No H H' → H' p = some (.lst us) → SrtOf (rowsW (waysQ d t 1)) S → Paired (WayQ K H') us S → Q (.ref p) H') ∧ (4096 < (waysQ d t 1).length → ∀ H', Eg K mg No H H' → E (.ref (cA mg "TooMany")) none H') | _ => False
theorem q_table {H : Hp} {Q : VK} {E : XK} {v : V} (q : ∃ (d : Nat) (W : Addr → Prop) (t : Tr) (B : Int), d ≤ 40 ∧ NodeAt K mg 60 d W t v H ∧ (∀ b, W b → ∃ xs, H b = some (.lst xs)) ∧ Tb K mg H ∧ OkW d t ∧ 0 < B ∧ B ≤ 2 ^ 3800 ∧ (∀ w ∈ waysQ d t 1, isI (w.2 * (B : Rat))) ∧   ((waysQ d t 1).length ≤ 4096 → ∀ p H' us S, H p = none → Eg K mg No H H' → H' p = some (.lst us) → SrtOf (rowsW (waysQ d t 1)) S → Paired (WayQ K H') us S → Q (.ref p) H') ∧ (4096 < (waysQ d t 1).length → ∀ H', Eg K mg No H H' → E (.ref (cA mg "TooMany")) none H')) : sp_table K mg [v] H Q E := q
local macro_rules | `(tactic| walk_at "op") => `(tactic| with_reducible refine q_table ?_)
theorem c_table (T : Txt K mg base) : CalX P w K mg base 103 "table" (sp_table K mg) := by
  refine T.d_table.calX (k := 102) sc_table (by intro vs H Q E h; unfold sp_table at h; split at h <;> first | rfl | exact h.elim) fun f cdv A outer s H vs Q E hr h => ?_
  refine ⟨_, (pss_cons (ps_set (i := 1) sc_table.nd rfl (.inl rfl) (pe_lst pa_nil))
    (pss_cons (ps_expr (pe_xS (c_leaves T) hr (by decide) (by rfl) (fun σ => passAt (takes_of rfl rfl rfl rfl) σ) (pa_cons (pv 0) (pa_cons (pe_tup (pa_cons pe_int (pa_cons pe_int pa_nil))) (pa_cons (pv 1) pa_nil)))))
    (pss_cons (ps_set (i := 2) sc_table.nd rfl (.inl rfl) pe_dnewT)
    (pss_cons (ps_for (passes_of rfl) rfl (pi_list (pv 1)) (pg_tup rfl (pgs_cons (pg_name (i := 3) sc_table.nd rfl (.inl rfl)) (pgs_cons (pg_name (i := 4) sc_table.nd rfl (.inl rfl)) pgs_nil)))
    (pss_one (ps_dput (hu_of hr) (pv 2) (pv 3) (pe_c (c_plus T) hr (by decide) (by rfl) (pa_cons (pe_dget2 (hu_of hr) (pv 2) (pv 3) (pe_tup (pa_cons pe_int (pa_cons pe_int pa_nil))) ⟨rfl, rfl, rfl, rfl⟩) (pa_cons (pv 4) pa_nil))) rfl)))
    (pss_one (ps_ret (pe_callB (cr_sortedII rfl hr.units) (by rfl) T.n_sorted (by decide +kernel) (pa_cons (pe_bm0 PySem.F.plainAttrs_dict PySem.F.slot_dict_items PySem.F.type_dict_items L2.DX.mt_itemsT (pv 2)) pa_nil)))))))), ?_⟩
  try simp only [cxOf_K, cxOf_K', cxOf_mg, cxOf_mg']
  unfold sp_table at h
  split at h
  case h_2 => exact h.elim
  rename_i v
  rw [show L2.start ["node", "found", "shares", "kept", "much"] [v] = [some (v), none, none, none, none] from rfl]
  obtain ⟨d, W, t, B, hd, hn, hW, hT, hok, dp, hdn, hB, q1, q2⟩ := h
  have gw : GoodW B (waysQ d t 1) := ⟨fun z hz => ⟨((good_ways hok).p z hz).1, hB z hz⟩, (good_ways hok).s⟩
  walk_at "sts"
  walk_at "nw"
  rename_i f hf H1 s1 e1
  walk_at "sts"
  walk_at "nw"
  rename_i p1 hp1 H2 s2 e2
  walk_at "sts"
  have s12 := s1.trans s2
  have e2f := s2 _ _ e1
  have hW2 : ∀ b, Or1 W f b → ∃ xs, H2 b = some (.lst xs) := fun b hb => hb.elim (fun hb => let ⟨xs, h⟩ := hW b hb; ⟨xs, s12 _ _ h⟩) fun z => ⟨[], by rw [show b = f from z]; exact e2f⟩
  rw [show sp_leaves K mg = spq_leaves 40 K mg from rfl]
  unfold spq_leaves
  refine ⟨d, Or1 W f, t, 1, 1, [], [], hd, hn.ew ⟨fun b h => .inl h, fun b h => h.imp id fun z => by rw [z]; exact hf, hW2⟩ (.same s12), .inr rfl, hW2, (Ew.same s12 : Eg K mg No _ _).tb hT, hok, .of e2, ⟨by unfold Bd; decide +kernel, by unfold Bd; decide +kernel⟩, by omega, e2f, .nil, by decide, fun hc H3 us ev3 e3 hp3 => ?_, fun hc H3 ev3 => ?_⟩
  · rw [List.nil_append] at hp3
    rw [List.length_nil, Nat.zero_add] at hc
    have ul := Paired.length hp3
    have q3 := q1 hc
    generalize hWe : waysQ d t 1 = Wl at *
    have ev03 : Eg K mg (At1 f) H H3 := (Ew.same s12).trans ev3
    walk_at "sts"
    walk_at "nwp"
    rename_i dd hdd H4 s4 e4
    walk_at "sts"
    have n4 : dd ≠ f := fun z => by rw [z, e3] at hdd; cases hdd
    refine L_rl (.of (s4 _ _ e3)) ?_
    refine f_it walk_list (fun i σ' H' => ∃ (kvs : List (List Key × V)) (v3 v4 : Option V), σ' = [some v, some (.ref f), some (.ref dd), v3, v4] ∧ Same H3 H' ∧ H' dd = some (.dT kvs) ∧ Paired (RtN H') kvs (rowsW (Wl.take i))) ⟨[], _, _, rfl, s4, e4, .nil⟩ (fun _ _ _ _ ⟨_, _, _, _, s, _⟩ => .of (s _ _ e3)) ?_ ?_
    · rintro i x σ' Hy H5 hi ⟨kvs, v3, v4, rfl, s5, e5, p5⟩ ⟨rfl, hx⟩
      obtain ⟨w, hwi, q0, kp, m, rfl, h1, h2, h3⟩ := paired_nth hp3 hx
      have hwm := List.mem_of_getElem? hwi
      obtain ⟨g1, nd1, ln1⟩ := gw.rows i (by omega)
      refine L_gTup (.of (s5 _ _ h1)) rfl ?_
      walk_at "sts"
      refine L_isdT e5 ?_
      walk_at "sts"
      walk_at "nw"
      rename_i p6 hp6 H6 s6 e6
      have s56 := s5.trans s6
      have hk6 : H6 kp = some (.tup ((kL w.1).map kV)) := by rw [kL_v]; exact s56 _ _ h2
      refine L_dgT (k := kL w.1) (s6 _ _ e5) hk6 ?_
      have hz := rt_val (K := K) (k := w.1) (paired_imp2 (fun _ _ h => h.rtP) p5)
      have hold : ∃ t, ((valV kvs (kL w.1)).getD (.ref p6)) = .ref t ∧ QtA K H6 t (lookW (rowsW (Wl.take i)) w.1) := by
        rcases hz with ⟨z1, _, z3⟩ | ⟨t, z1, z2, _⟩
        · rw [z1, z3]
          exact ⟨p6, rfl, .of e6⟩
        · rw [z1]
          exact ⟨t, rfl, s6.seqT z2⟩
      have bo : BdQ 3801 (lookW (rowsW (Wl.take i)) w.1) := by
        rcases hz with ⟨_, _, z3⟩ | ⟨_, _, _, z3⟩
        · rw [z3]
          exact ⟨by unfold Bd; decide +kernel, by unfold Bd; decide +kernel⟩
        · obtain ⟨z, hz, _, e⟩ := lookW_at z3
          rw [← e]
          exact GoodW.bdk dp hdn g1 hz
      obtain ⟨t6, et, ht⟩ := hold
      rw [et]
      walk_at "sts"
      refine ⟨_, _, _, _, fr_qt ht (bo.mono (by decide)), fr_qt (s56.seqT h3) ((GoodW.bdk dp hdn gw hwm).mono (by decide)), fun p7 H7 hp7 s7 e7 => ?_⟩
      rw [q_add] at e7
      have s67 := s6.trans s7
      walk_at "sts"
      have hlk := Paired.length p5
      refine L_dputT (k := kL w.1) (s67 _ _ e5) (s7 _ _ hk6) (by omega) ?_
      have p57 := paired_imp2 (fun _ _ h => RtN.same h s67) p5
      have hput := rtn_put K (k := w.1) (v := w.2) (t := p7) p57 nd1 e7
      have e57 := s67 _ _ e5
      walk_at "sts"
      refine ⟨_, _, _, rfl, fun b o hb => ?_, upd_same, ?_⟩
      · rw [upd_ne fun z => by rw [z, hdd] at hb; cases hb]
        exact s67 _ _ (s5 _ _ hb)
      · have tk : rowsW (Wl.take (i + 1)) = addW (rowsW (Wl.take i)) w.1 w.2 := by
          rw [show Wl.take (i + 1) = Wl.take i ++ [w] by rw [List.take_succ, hwi]; rfl]
          unfold rowsW
          rw [List.foldl_append]
          rfl
        rw [tk]
        exact paired_imp2 (fun _ _ h => RtN.keep h e57 fun b o hb ne => by rw [upd_ne ne]; exact hb) hput
    · rintro σ' H5 ⟨kvs, v3, v4, rfl, s5, e5, p5⟩
      rw [ul, List.take_length] at p5
      have nd := good_nd gw
      obtain ⟨ks, rfl, hks⟩ := rtn_ks p5
      have kl := Paired.length hks
      have kl2 := (gw.rows Wl.length (Nat.le_refl _)).2.2
      rw [List.take_length] at kl2
      walk_at "sts"
      refine L_itemsD e5 ?_
      intro p6 hp6
      have s6 : Same H5 (upd H5 p6 (DX.itemsO p6 dd)) := same_new hp6
      have e6 : (upd H5 p6 (DX.itemsO p6 dd)) p6 = some (DX.itemsO p6 dd) := upd_same
      have f6 := s6 _ _ e5
      generalize hH6 : upd H5 p6 (DX.itemsO p6 dd) = H6 at s6 e6 f6 ⊢
      walk_at "sts"
      refine L_sortII (M := fun k => [Sum.inl (qt (lookW (rowsW Wl) k)).1, Sum.inl (qt (lookW (rowsW Wl) k)).2]) e6 f6 (by omega) (fun e he => ?_) ?_
      · obtain ⟨b, hb, e1, e2⟩ := paired_memL hks he
        rw [e1]
        rw [look_mem nd hb]
        exact s6 _ _ e2
      · intro H7 l7 ps s7 g7 hl7 hperm hsrt e7 hpr
        have s57 : Same H5 H7 := s6.trans s7
        obtain ⟨hS, hM⟩ := srt_ps nd hks hperm hsrt
        have s37 : Same H3 H7 := s5.trans s57
        walk_at "sts"
        refine q3 l7 H7 _ _ (ev03.dm _ ((s5.trans s6).free hl7)) ((ew_at1 ev03 hf).trans (.same s37)) e7 hS (paired_self fun z hz => ?_)
        obtain ⟨q, a1, a2⟩ := hpr z hz
        exact ⟨_, _, _, rfl, a1, a2, .of (s57 _ _ (hM z hz))⟩
  · rw [List.length_nil, Nat.zero_add] at hc
    exact q2 hc H3 (ew_at1 ((Ew.same s12).trans ev3) hf)
/-! the law's trees, as lists in tuples -/
/-- a tree at most d deep, its sides and places within bounds -/
def OkT : Nat → Tr → Prop
  | _, .leaf ks => ks.length ≤ 8 ∧ ∀ k ∈ ks, 0 ≤ k ∧ k < 100
  | 0, .node _ => False
  | d + 1, .node ps => ps ≠ [] ∧ ps.length ≤ 4 ∧ ∀ p ∈ ps, (1 ≤ p.1 ∧ p.1 ≤ 1000000000) ∧ OkT d p.2
/-- v is the tree, as lists in tuples -/
def TreeV (K : PySem.W.Frag) (H : Hp) : Nat → Tr → V → Prop
  | _, .leaf ks, v => ∃ a, v = .ref a ∧ SqL K H a (ks.map V.int)
  | 0, .node _, _ => False
  | d + 1, .node ps, v => ∃ a us, v = .ref a ∧ SqT K H a us ∧ Paired (fun u (p : Int × Tr) => ∃ q w, u = .ref q ∧ SqT K H q [.int p.1, w] ∧ TreeV K H d p.2 w) us ps
theorem treeV_gen {K : PySem.W.Frag} {H H' : Hp} (sL : ∀ a xs, SqL K H a xs → SqL K H' a xs) (sT : ∀ a xs, SqT K H a xs → SqT K H' a xs) : ∀ (d : Nat) (t : Tr) (v : V), TreeV K H d t v → TreeV K H' d t v
  | 0, .leaf ks, v, h => by obtain ⟨a, rfl, h⟩ := h; exact ⟨a, rfl, sL _ _ h⟩
  | d + 1, .leaf ks, v, h => by obtain ⟨a, rfl, h⟩ := h; exact ⟨a, rfl, sL _ _ h⟩
  | 0, .node _, _, h => h.elim
  | d + 1, .node ps, v, h => by
    obtain ⟨a, us, rfl, h, p⟩ := h
    exact ⟨a, us, rfl, sT _ _ h, paired_imp2 (fun u p ⟨q, w, e, h1, h2⟩ => ⟨q, w, e, sT _ _ h1, treeV_gen sL sT d p.2 w h2⟩) p⟩
theorem treeV_same {K : PySem.W.Frag} {H H' : Hp} {d : Nat} {t : Tr} {v : V} (h : TreeV K H d t v) (e : Same H H') : TreeV K H' d t v := treeV_gen (fun _ _ => e.seq) (fun _ _ => e.seqT) d t v h
theorem treeV_leaf {K : PySem.W.Frag} {H : Hp} {d : Nat} {ks : List Int} {v : V} (h : TreeV K H d (.leaf ks) v) : ∃ a, v = .ref a ∧ SqL K H a (ks.map V.int) := by cases d <;> exact h
theorem okT_leaf {d : Nat} {ks : List Int} (h : OkT d (.leaf ks)) : ks.length ≤ 8 ∧ ∀ k ∈ ks, 0 ≤ k ∧ k < 100 := by cases d <;> exact h
/-- all but the lists of W -/
theorem treeV_rs {K : PySem.W.Frag} {mg : Str → Option Value} {T : List TX} {W W' : Addr → Prop} {H H' : Hp} {d : Nat} {t : Tr} {v : V} (h : TreeV K (rs (fun b => ¬ W b) H) d t v) (n : ∀ b, W' b → W b ∨ H b = none) (e : Ew mg T W' H H') : TreeV K (rs (fun b => ¬ W' b) H') d t v := by
  have key : ∀ a o, rs (fun b => ¬ W b) H a = some o → (∀ ps, o ≠ .tbl ps) → rs (fun b => ¬ W' b) H' a = some o := fun a o h ne => by
    obtain ⟨h1, h2⟩ := rs_of h
    have nw : ¬ W' a := fun z => (n a z).elim h1 fun y => by rw [y] at h2; cases h2
    exact rs_at nw (e.ex _ _ h2 ne fun w => (nw w).elim)
  refine treeV_gen (fun a xs h => ?_) (fun a xs h => ?_) d t v h
  · rcases h with (h | ⟨o, h⟩) | h
    · exact .inl (.inl (key _ _ h (fun _ z => nomatch z)))
    · exact .inl (.inr ⟨o, key _ _ h (fun _ z => nomatch z)⟩)
    · exact .inr h
  · rcases h with (h | ⟨o, h⟩) | h
    · exact .inl (.inl (key _ _ h (fun _ z => nomatch z)))
    · exact .inl (.inr ⟨o, key _ _ h (fun _ z => nomatch z)⟩)
    · exact .inr h
/-- what is kept, rising -/
def srtT : Nat → Tr → Tr
  | _, .leaf ks => .leaf (srtI ks)
  | 0, .node _ => .node []
  | d + 1, .node ps => .node (ps.map fun y => (y.1, srtT d y.2))
theorem srtT_leaf {d : Nat} {ks : List Int} : srtT d (.leaf ks) = .leaf (srtI ks) := by cases d <;> rfl
/-- a way of a law's die: so many sides, a lambda that makes the node of w -/
def WayL (K : PySem.W.Frag) (mg : Str → Option Value) (H0 H : Hp) (u : V) (x : Int × V) : Prop := ∃ q f, u = .ref q ∧ H q = some (.tup [.int x.1, .ref f]) ∧ LamAt__law_make_l0 K mg [x.2] f H0 H
theorem WayL.ew {K : PySem.W.Frag} {mg : Str → Option Value} {W : Addr → Prop} {H0 H H' : Hp} {u : V} {x : Int × V} (h : WayL K mg H0 H u x) (e : Eg K mg W H H') : WayL K mg H0 H' u x := by
  obtain ⟨q, f, rfl, h1, h2⟩ := h
  exact ⟨q, f, rfl, e.tup h1, h2.ew e (.inl rfl)⟩
/-- v is the node of the tree -/
def LawAt (K : PySem.W.Frag) (mg : Str → Option Value) (W : Addr → Prop) (d : Nat) (t : Tr) (v : V) (H0 H : Hp) : Prop := match d, t with
  | _, .leaf ks => TolA mg (srtI ks) v H
  | 0, .node _ => False
  | d + 1, .node ps => ∃ a dx p us, v = .ref a ∧ H a = some (.ins (cA mg "Die") dx [("ways", .ref p)]) ∧ H p = some (.tup us) ∧ us.length ≤ 4 ∧ Paired (fun u (y : Int × Tr) => (∃ w, WayL K mg H0 H u (y.1, w) ∧ TreeV K (rs (fun b => ¬ W b) H0) d y.2 w) ∧ OkT d y.2) us ps
def sp__law_make (K : PySem.W.Frag) (mg : Str → Option Value) : Sp := fun vs H Q _ => match vs with | [v] => Tb K mg H ∧ ∀ f H', Eg K mg No H H' → LamAt__law_make_l0 K mg [v] f H H' → Q (.ref f) H' | _ => False
theorem q__law_make {H : Hp} {Q : VK} {E : XK} {v : V} (q : Tb K mg H ∧ ∀ f H', Eg K mg No H H' → LamAt__law_make_l0 K mg [v] f H H' → Q (.ref f) H') : sp__law_make K mg [v] H Q E := q
local macro_rules | `(tactic| walk_at "op") => `(tactic| with_reducible refine q__law_make ?_)
theorem c__law_make (T : Txt K mg base) : Cal P w K mg base 1 "_law_make" (sp__law_make K mg) := by
  refine T.d__law_make.calT (k := 0) sc__law_make (by intro vs H Q E h; unfold sp__law_make at h; split at h <;> first | rfl | exact h.elim) fun f A outer s H vs Q E hr h => ?_
  refine ⟨_, (psf_ret [("_law_tree_here", 0)] (show ∀ a ∈ ([("_law_tree_here", 0)] : List (Str × Nat)), (defScope s__law_make).names.lookup a.1 = some .cell ∧ (["_law_tree_here"] : List Str)[a.2]? = some a.1 from by decide +kernel) (fun _ _ h => cab_ok h) (pe_lamX (T := tabsX K mg) (q := "_law_make.<locals>.<lambda>") (inner := none) s__law_make e__law_make_l0 (by rfl) T.tb__law_make rfl (show ("_law_make" : Str) ++ ".<locals>." ++ "<lambda>" = ("_law_make.<locals>.<lambda>" : Str) from by decide +kernel) (by unfold tabsX; simp) T.hu__law_make (by rfl) (freeIn_ok (sc := defScope s__law_make) (lsc := lamS s__law_make e__law_make_l0) (by decide +kernel)))), ?_⟩
  try simp only [cxOf_K, cxOf_K', cxOf_mg, cxOf_mg']
  unfold sp__law_make at h
  split at h
  case h_2 => exact h.elim
  rename_i v
  rw [show L2.start ["_law_tree_here"] [v] = [some (v)] from rfl]
  obtain ⟨hT, q⟩ := h
  walk_at "sts"
  refine ⟨hT, fun f c' H1 ex T1 hf e1 e2 => ?_⟩
  refine ⟨[("_law_tree_here", 0)], [v], by simp, by decide, rfl, fun H' inj sm hat => ?_⟩
  have hn := held_new (names := (lamS s__law_make e__law_make_l0).names) (H0 := H1) (H := H') (fr := ["_law_tree_here"]) (ws := [v]) inj (frIs_ok (by decide +kernel)) rfl fun i y w hi hw => by
    match i, hi, hw with
    | 0, hi, hw => cases hi; cases hw; exact hat 0 _ _ rfl rfl
  exact q f H' (ex.trans (.same sm)) ⟨c', _, sm _ _ e1, e2.ext sm, hn.1, fun y a e => ex.dm a (hn.2 y a e)⟩
def sp__law_node (K : PySem.W.Frag) (mg : Str → Option Value) : Sp := fun vs H Q _ => match vs with | [v] => ∃ (W : Addr → Prop) (d : Nat) (t : Tr), TreeV K (rs (fun b => ¬ W b) H) d t v ∧ OkT d t ∧ Tb K mg H ∧ ∀ x H', Eg K mg No H H' → LawAt K mg W d t x H H' → Q x H' | _ => False
theorem q__law_node {H : Hp} {Q : VK} {E : XK} {v : V} (q : ∃ (W : Addr → Prop) (d : Nat) (t : Tr), TreeV K (rs (fun b => ¬ W b) H) d t v ∧ OkT d t ∧ Tb K mg H ∧ ∀ x H', Eg K mg No H H' → LawAt K mg W d t x H H' → Q x H') : sp__law_node K mg [v] H Q E := q
local macro_rules | `(tactic| walk_at "op") => `(tactic| with_reducible refine q__law_node ?_)
theorem c__law_node (T : Txt K mg base) : Cal P w K mg base 3 "_law_node" (sp__law_node K mg) := by
  refine T.d__law_node.cal (k := 2) sc__law_node (by intro vs H Q E h; unfold sp__law_node at h; split at h <;> first | rfl | exact h.elim) fun f cdv A outer s H vs Q E hr h => ?_
  refine ⟨_, (pss_cons (ps_if (pt_val (pe_callB call_isi (by rfl) T.n_isinstance (by decide +kernel) (pa_cons (pv 0) (pa_cons (pe_ty "list" (by rfl) T.n_list (by decide +kernel)) pa_nil))))
    (pss_one (ps_ret (pe_mk (m_Told T) hr (by decide) (by rfl) (pa_cons (pe_callTy call_list1A (by rfl) T.n_list (by decide +kernel) (pa_cons (pv 0) pa_nil)) pa_nil))))
    pss_nil)
    (pss_cons (ps_setLc (i := 1) (own := [("_law_many", 3), ("_law_part", 4)]) (g := (gTup K 2 (gCons (gName 3) (gCons (gName 4) gNil)))) (tt := tYes) (te := (tTup (tCons (tVar 3) (tCons (tCall (sp__law_make K mg) [] E0 (tCons (tVar 4) tNil)) tNil)))) rfl sc__law_node.nd rfl rfl (sw_true rfl rfl rfl (by decide +kernel)) (pi_tup (pv 0)) (blkOk_by (N := ["_law_tree_here", "_law_handed", "_law_node_here", "_law_many", "_law_part"]) (sc := defScope s__law_node) (by decide +kernel)) (fun _ _ _ _ _ => by exact (pg_tup rfl (pgs_cons (pg_name (i := 3) sc__law_node.nd rfl (.inl rfl)) (pgs_cons (pg_name (i := 4) sc__law_node.nd rfl (.inl rfl)) pgs_nil)))) (fun _ _ _ _ _ => pts_nil) (fun _ _ _ _ _ => by exact (pe_tup (pa_cons (pv 3) (pa_cons (pe_c (c__law_make T) hr (by decide) (by rfl) (pa_cons (pv 4) pa_nil)) pa_nil)))))
    (pss_cons (ps_set (i := 2) sc__law_node.nd rfl (.inl rfl) (pe_mk (m_Die T) hr (by decide) (by rfl) (pa_cons (pv 1) pa_nil)))
    (pss_cons (ps_expr (pe_bm0 PySem.F.plainAttrs_list PySem.F.slot_list_clear PySem.F.type_list_clear mt_clear (pv 1)))
    (pss_one (ps_ret (pv 2))))))), ?_⟩
  try simp only [cxOf_K, cxOf_K', cxOf_mg, cxOf_mg']
  unfold sp__law_node at h
  split at h
  case h_2 => exact h.elim
  rename_i v
  rw [show L2.start ["_law_tree_here", "_law_handed", "_law_node_here", "_law_many", "_law_part"] [v] = [some (v), none, none, none, none] from rfl]
  obtain ⟨W, d, t, hv, hok, hT, q⟩ := h
  have hv0 := treeV_same hv rs_sub
  match d, t, hv, hv0, hok, q with
  | d, .leaf ks, hv, hv0, hok, q =>
    obtain ⟨a, rfl, hS⟩ := treeV_leaf hv0
    have hl := (okT_leaf hok).1
    walk_at "sts"
    refine L_isi (tyx_L hS) (b := true) (by decide +kernel) ?_
    walk_at "sts"
    refine L_list1 hS fun p hp => ?_
    walk_at "sts"
    refine fun x dx nx nd ne => ?_
    have s1 := same_new (o := .lst (ks.map V.int)) hp
    have s2 := s1.trans (same_made (C := cA mg "Told") nx nd ne)
    refine ⟨dx, ks, upd_same, .inl (.of ((same_made nx nd ne) _ _ upd_same)), fun p H' keep hx' hp' => ⟨rfl, ?_⟩⟩
    refine q _ _ (.same fun b o hb => keep b o (s2 _ _ hb) fun z => ?_) (by cases d <;> exact ⟨x, dx, p, rfl, hx', hp'⟩)
    have := s1 _ _ hb
    rw [z, nx] at this
    cases this
  | 0, .node ps, hv, hv0, hok, q => exact hv.elim
  | d + 1, .node ps, hv, hv0, hok, q =>
    obtain ⟨hne, hl, hok⟩ := hok
    obtain ⟨a, us, rfl, hS', hP'⟩ := hv
    have hS := rs_sub.seqT hS'
    walk_at "sts"
    refine L_isi (tyx_T hS) (b := false) (by decide +kernel) ?_
    walk_at "sts"
    obtain ⟨ws, hw1, hw2⟩ := paired_exs (R := fun (u : V) (x : Int × V) (y : Int × Tr) => ∃ q, x.1 = y.1 ∧ u = .ref q ∧ SqT K H q [.int x.1, x.2] ∧ TreeV K (rs (fun b => ¬ W b) H) d y.2 x.2) (paired_imp2 (fun u y ⟨q, w, e1, e2, e3⟩ => ⟨(y.1, w), q, rfl, e1, rs_sub.seqT e2, e3⟩) hP')
    have hwl := Paired.length hw1
    have hpl := Paired.length hw2
    refine ⟨a, rfl, ⟨_, hS⟩, ?_⟩
    refine lc_ew (mg := mg) (T := tabsX K mg) (W := No) (fun _ H1 u x => WayL K mg H H1 u x) (fun W' H H' v w _ e h => h.ew e) (fun _ z => z.elim) walk_tup ws hwl.symm (by omega) (fun H' e => e.seqT hS) ?_ ?_
    · rintro D i x1 Ha Hb R R' hD hi ev hw ⟨rfl, hx1⟩ q1
      obtain ⟨x, hxi, y, q0, e0, rfl, hq, hTy⟩ := paired_nth hw1 hx1
      refine L_gTup (ev.seqT hq) rfl ?_
      walk_at "sts"
      refine ⟨rfl, ?_⟩
      walk_at "sts"
      refine ⟨ev.tb hT, fun f Hc evf hf => ?_⟩
      walk_at "sts"
      walk_at "nw"
      rename_i p5 hp5 H5 s5 e5
      exact q1 _ x _ hxi (evf.trans (.same s5)) ⟨p5, f, rfl, e5, lamN_old (hf.ew (.same s5 : Eg K mg No _ _) (.inl rfl)) ev.dm⟩
    intro p1 H1 vs hp1 ev1 e1 hw hV
    walk_at "sts"
    refine fun x dx nx nd ne => ?_
    have s1 := same_made (C := cA mg "Die") nx nd ne
    refine ⟨dx, vs, upd_same, .of (s1 _ _ e1), fun p H2 keep hx2 hp2 => ⟨rfl, ?_⟩⟩
    have s2 : Same H1 H2 := fun b o hb => keep b o (s1 _ _ hb) fun z => by
      rw [z, nx] at hb
      cases hb
    walk_at "sts"
    refine L_tyL (.of (s2 _ _ e1)) ?_
    walk_at "sts"
    refine L_clear (s2 _ _ e1) ?_
    walk_at "sts"
    have n1 : ∀ b o, H2 b = some o → (∀ l, o ≠ .lst l) → upd H2 p1 (.lst []) b = some o := fun b o hb n => by
      rw [upd_ne fun z => by rw [z, s2 _ _ e1] at hb; exact n _ (Option.some.inj hb).symm]
      exact hb
    have evc : Eg K mg (At1 p1) H2 (upd H2 p1 (.lst [])) := Ew.refl.mut (.inl rfl) (s2 _ _ e1)
    have ev2 : Eg K mg No H (upd H2 p1 (.lst [])) := (ev1.trans (.same s2)).mut (.inr hp1) (s2 _ _ e1)
    have vl := Paired.length hV
    refine q _ _ ev2 ⟨x, dx, p, vs, rfl, n1 _ _ hx2 (fun _ z => nomatch z), n1 _ _ hp2 (fun _ z => nomatch z), by omega, ?_⟩
    refine paired_trans (fun u x y h1 h2 => ?_) hV (paired_memR (G := fun x y => (∃ u, ∃ q, x.1 = y.1 ∧ u = V.ref q ∧ SqT K H q [.int x.1, x.2] ∧ TreeV K (rs (fun b => ¬ W b) H) d y.2 x.2) ∧ OkT d y.2) (fun x y hy h => ⟨h, (hok y hy).2⟩) hw2)
    obtain ⟨⟨u2, q2, a1, a2, a3, a4⟩, a5⟩ := h2
    refine ⟨⟨x.2, ?_, a4⟩, a5⟩
    rw [← a1]
    exact (h1.ew (.same s2 : Eg K mg No _ _)).ew evc
def sp__law_make_l0 (K : PySem.W.Frag) (mg : Str → Option Value) : List V → List V → Hp → VK → Prop := fun ws vs H Q => match ws, vs with | [v], [] => ∃ (W : Addr → Prop) (d : Nat) (t : Tr), TreeV K (rs (fun b => ¬ W b) H) d t v ∧ OkT d t ∧ Tb K mg H ∧ ∀ x H', Eg K mg No H H' → LawAt K mg W d t x H H' → Q x H' | _, _ => False
theorem nsc__law_make_l0 : NScope ["_law_tree_here"] [] ["_law_tree_here"] (lamS s__law_make e__law_make_l0) := nscope_by (by decide +kernel)
theorem c__law_make_l0 (T : Txt K mg base) : LOkP P w K mg base (tabsX K mg) (4) "_law_make.<locals>.<lambda>" (lamP s__law_make e__law_make_l0) (lamB e__law_make_l0) (lamS s__law_make e__law_make_l0) ["_law_tree_here"] none (sp__law_make_l0 K mg) := by
  refine lokP_of (N := ["_law_tree_here"]) (ps := []) (k := 3) nsc__law_make_l0 (by intro cl c pm ctv us hl; match us, hl with | [], _ => rfl) (by intro ws vs H Q h; unfold sp__law_make_l0 at h; split at h <;> first | rfl | exact h.elim) fun f c cl A outer s H ws vs Q hr len hin h => ?_
  refine ⟨_, (pe_c (c__law_node T) hr (by decide) (by rfl) (pa_cons (pv 0) pa_nil)), ?_⟩
  try simp only [ncx_K, ncx_mg]
  unfold sp__law_make_l0 at h
  split at h
  case h_2 => exact h.elim
  rename_i v
  rw [show startF ["_law_tree_here"] [] ([v].map some) = [some (v)] from rfl]
  walk_at "sts"
  exact h
theorem lawAt_node {K : PySem.W.Frag} {mg : Str → Option Value} : ∀ (d : Nat) {W : Addr → Prop} {t : Tr} {v : V} {H0 H : Hp}, LawAt K mg W d t v H0 H → Eg K mg W H0 H → NodeAt K mg 30 d W (srtT d t) v H
  | d, W, .leaf ks, v, H0, H, h, e => by
    rw [srtT_leaf]
    exact node_leaf (by cases d <;> exact h)
  | 0, W, .node ps, v, H0, H, h, e => h.elim
  | d + 1, W, .node ps, v, H0, H, h, e => by
    obtain ⟨a, dx, p, us, rfl, h1, h2, h3, h4⟩ := h
    obtain ⟨fs, f1, f2⟩ := paired_exs (R := fun (u : V) (f : Int × Addr) (y : Int × Tr) => f.1 = y.1 ∧ (∃ w q, u = .ref q ∧ H q = some (.tup [.int y.1, .ref f.2]) ∧ LamAt__law_make_l0 K mg [w] f.2 H0 H ∧ TreeV K (rs (fun b => ¬ W b) H0) d y.2 w) ∧ OkT d y.2) (paired_imp2 (fun u y ⟨⟨w, ⟨q, f, e1, e2, e3⟩, e4⟩, e5⟩ => ⟨(y.1, f), rfl, ⟨w, q, e1, e2, e3, e4⟩, e5⟩) h4)
    refine ⟨a, dx, p, us, fs, rfl, h1, h2, by omega, paired_imp2 (fun u f ⟨y, a1, ⟨w, q, a2, a3, a4, a5⟩, a6⟩ => ⟨q, a2, by rw [a1]; exact a3⟩) f1, ?_⟩
    refine paired_mapR (fun y : Int × Tr => (y.1, srtT d y.2)) ?_
    refine paired_imp2 (fun f y h => ?_) f2
    obtain ⟨u, a1, ⟨w, q, a2, a3, a4, a5⟩, a6⟩ := h
    refine ⟨a1, ?_⟩
    intro W' H1 vv e1 tb Q q' P w' base T
    refine (LamN.run (a4.ew e1 (.inl rfl)) (c__law_make_l0 T) tb ((e.up vv.sub).trans e1) (.inl rfl) fun Hd Q' ed tbd sub keep hq => ?_).le (by decide)
    refine ⟨W', d, y.2, treeV_rs a5 (fun b hb => (vv.new b hb).imp id (e.dm b)) ed, a6, tbd, fun x H2 e2 hx => ?_⟩
    have lsd : ∀ b, W' b → ∃ xs, Hd b = some (.lst xs) := fun b hb => by
      obtain ⟨xs, hx⟩ := vv.lst b hb
      exact ⟨xs, keep _ _ hx fun _ z => nomatch z⟩
    have hn := lawAt_node d hx e2.no
    exact hq x H2 fun H4 s4 eb => q' x H4 (eb e2) (hn.ew (vol_same (goes_same (H1 := Hd) (goes_same (H1 := Hd) lsd e2) (.same s4 : Eg K mg No H2 H4))) (.same s4))
def sp__law_cell (K : PySem.W.Frag) (mg : Str → Option Value) : Sp := fun vs H Q _ => match vs with | [.ref a, .int k] => ∃ ns : List Int, SqL K H a (ns.map V.int) ∧ 0 ≤ k ∧ k < 1000000 ∧ Q (.int (cellAt ns k (7919 * k + 13))) H | _ => False
theorem q__law_cell {H : Hp} {Q : VK} {E : XK} {a : Addr} {k : Int} (q : ∃ ns : List Int, SqL K H a (ns.map V.int) ∧ 0 ≤ k ∧ k < 1000000 ∧ Q (.int (cellAt ns k (7919 * k + 13))) H) : sp__law_cell K mg [.ref a, .int k] H Q E := q
local macro_rules | `(tactic| walk_at "op") => `(tactic| with_reducible refine q__law_cell ?_)
theorem c__law_cell (T : Txt K mg base) : Cal P w K mg base 1 "_law_cell" (sp__law_cell K mg) := by
  refine T.d__law_cell.cal (k := 0) sc__law_cell (by intro vs H Q E h; unfold sp__law_cell at h; split at h <;> first | rfl | exact h.elim) fun f cdv A outer s H vs Q E hr h => ?_
  refine ⟨_, (pss_cons (ps_if (pt_cmpR op_ltA (pv 1) (pe_callB call_lenA (by rfl) T.n_len (by decide +kernel) (pa_cons (pv 0) pa_nil)) (nomark _))
    (pss_one (ps_ret (pe_ix ix_seq (pv 0) (pv 1) (fun _ _ => rfl))))
    pss_nil)
    (pss_one (ps_ret (pe_op op_addA (pe_op op_mulA pe_int (pv 1)) pe_int)))), ?_⟩
  try simp only [cxOf_K, cxOf_K', cxOf_mg, cxOf_mg']
  unfold sp__law_cell at h
  split at h
  case h_2 => exact h.elim
  rename_i a k
  rw [show L2.start ["_law_script", "_law_k"] [V.ref a, V.int k] = [some (V.ref a), some (V.int k)] from rfl]
  obtain ⟨ns, hS, hk, hk2, q⟩ := h
  walk_at "sa"
  rw [List.length_map]
  refine L_d (fun c => ?_) (fun c => ?_)
  · walk_at "sts"
    exact L_ixL hS (cellAt_in hk c) q
  · walk_at "sa"
    rw [cellAt_out c] at q
    exact q
def sp__law_mix (K : PySem.W.Frag) (mg : Str → Option Value) : Sp := fun vs H Q _ => match vs with | [.int c, .int k] => 0 ≤ k ∧ k < 1000000 ∧ ∀ m : Int, 0 ≤ m → m < 2147483587 → Q (.int m) H | _ => False
theorem q__law_mix {H : Hp} {Q : VK} {E : XK} {c : Int} {k : Int} (q : 0 ≤ k ∧ k < 1000000 ∧ ∀ m : Int, 0 ≤ m → m < 2147483587 → Q (.int m) H) : sp__law_mix K mg [.int c, .int k] H Q E := q
local macro_rules | `(tactic| walk_at "op") => `(tactic| with_reducible refine q__law_mix ?_)
theorem c__law_mix (T : Txt K mg base) : Cal P w K mg base 1 "_law_mix" (sp__law_mix K mg) := by
  refine T.d__law_mix.cal (k := 0) sc__law_mix (by intro vs H Q E h; unfold sp__law_mix at h; split at h <;> first | rfl | exact h.elim) fun f cdv A outer s H vs Q E hr h => ?_
  refine ⟨_, (pss_cons (ps_set (i := 2) sc__law_mix.nd rfl (.inl rfl) (pe_op op_mod (pe_op op_mul (pe_op op_addA (pv 0) (pe_op op_mulA pe_int (pv 1))) pe_int) pe_int))
    (pss_cons (ps_set (i := 2) sc__law_mix.nd rfl (.inl rfl) (pe_op op_mod (pe_op op_mulA (pv 2) (pv 2)) pe_int))
    (pss_one (ps_ret (pe_op op_mod (pe_op op_addA (pe_op op_addA (pe_op op_mulA (pv 2) (pv 2)) (pe_op op_mulA pe_int (pv 2))) (pv 1)) pe_int))))), ?_⟩
  try simp only [cxOf_K, cxOf_K', cxOf_mg, cxOf_mg']
  unfold sp__law_mix at h
  split at h
  case h_2 => exact h.elim
  rename_i c k
  rw [show L2.start ["_law_cell_here", "_law_k", "_law_number"] [V.int c, V.int k] = [some (V.int c), some (V.int k), none] from rfl]
  obtain ⟨hk, hk2, q⟩ := h
  walk_at "sa"
  refine L_I (show CMul _ 48271 from .inr ⟨by decide, by decide⟩) ?_
  walk_at "sa"
  exact q _ (Int.emod_nonneg _ (by decide)) (Int.emod_lt_of_pos _ (by decide))
theorem q_new {H : Hp} {n : Int} {Q : VK} (h : ∀ (n : Int) p H', H p = none → Same H H' → H' p = some (.lst [.int n]) → Q (.ref p) H') {p : Addr} (hp : H p = none) : Q (.ref p) (upd H p (.lst [.int n])) := h n p _ hp (same_new hp) upd_same
def sp__law_digits (K : PySem.W.Frag) (mg : Str → Option Value) : Sp := fun vs H Q _ => match vs with | [.int c] => ∀ (n : Int) p H', H p = none → Same H H' → H' p = some (.lst [.int n]) → Q (.ref p) H' | _ => False
theorem q__law_digits {H : Hp} {Q : VK} {E : XK} {c : Int} (q : ∀ (n : Int) p H', H p = none → Same H H' → H' p = some (.lst [.int n]) → Q (.ref p) H') : sp__law_digits K mg [.int c] H Q E := q
local macro_rules | `(tactic| walk_at "op") => `(tactic| with_reducible refine q__law_digits ?_)
theorem c__law_digits (T : Txt K mg base) : Cal P w K mg base 2 "_law_digits" (sp__law_digits K mg) := by
  refine T.d__law_digits.cal (k := 1) sc__law_digits (by intro vs H Q E h; unfold sp__law_digits at h; split at h <;> first | rfl | exact h.elim) fun f cdv A outer s H vs Q E hr h => ?_
  refine ⟨_, (Evl.pss_cut (ps_if (PW.pt (pw_and (pt_cmpR (op_eqA hr) (pe_op op_mod (pv 0) pe_int) pe_int (nomark _)) (pw_and1 (pt_cmpR op_gt (pe_callB call_absA (by rfl) T.n_abs (by decide +kernel) (pa_cons (pv 0) pa_nil)) (pe_op op_pow pe_int pe_int) (nomark _)))))
    (pss_one (ps_ret (pe_lst (pa_cons (pe_op op_fdivW (pv 0) pe_int) pa_nil))))
    pss_nil)
    (pss_cons (ps_set (i := 1) sc__law_digits.nd rfl (.inl rfl) pe_int)
    (pss_cons (ps_for PassesOwn.never rfl (pi_range1 (by rfl) T.n_range (pa_cons pe_int pa_nil)) (pg_name (i := 2) sc__law_digits.nd rfl (.inl rfl))
    (pss_one (ps_set (i := 1) sc__law_digits.nd rfl (.inl rfl) (pe_op op_addA (pe_op op_mulA (pv 1) pe_int) (pe_c (c__law_mix T) hr (by decide) (by rfl) (pa_cons (pv 0) (pa_cons (pv 2) pa_nil)))))))
    (pss_one (ps_ret (pe_lst (pa_cons (pv 1) pa_nil))))))), ?_⟩
  try simp only [cxOf_K, cxOf_K', cxOf_mg, cxOf_mg']
  unfold sp__law_digits at h
  split at h
  case h_2 => exact h.elim
  rename_i c
  rw [show L2.start ["_law_cell_here", "_law_number", "_law_k"] [V.int c] = [some (V.int c), none, none] from rfl]
  walk_at "sts"
  refine L_cut (Mid := fun σ' H' => σ' = [some (.int c), none, none] ∧ H' = H) ?_ ?_
  case refine_2 =>
    rintro σ' H' ⟨rfl, rfl⟩
    walk_at "sts"
    refine L_r1 (by decide) (by decide) ?_
    refine f_range (fun i σ' H2 => H2 = H' ∧ ∃ (n : Int) (v : Option V), σ' = [some (.int c), some (.int n), v] ∧ Bd (34 * (i + 1)) n) ⟨rfl, 0, _, rfl, by unfold Bd; decide⟩ ?_ ?_
    · rintro i σ' H2 hi ⟨rfl, n, v, rfl, hb⟩
      walk_at "sts"
      have hb2 : Bd (34 * (i + 1) + 32) (n * 2147483587) := hb.mul (bd_lit (by decide))
      refine L_mulI ((hb.mono (show 34 * (i + 1) ≤ 900 by omega)).cmul (bd_64 (by decide))) ?_
      walk_at "sts"
      refine ⟨by omega, by omega, fun m h0 h1 => ?_⟩
      walk_at "sts"
      exact ⟨rfl, _, _, rfl, (hb2.add (bd_lit (i := m) (by omega))).mono (by omega)⟩
    · rintro σ' H2 ⟨rfl, n, v, rfl, hb⟩
      walk_at "sts"
      refine L_new (sz_dec (by simp)) fun p hp => q_new h hp
  walk_at "sa"
  refine L_d (fun _ => ?_) (fun _ => ?_)
  · walk_at "sa"
    refine L_d (fun _ => ?_) (fun _ => ?_)
    · walk_at "sa"
      refine L_new (sz_dec (by simp)) fun p hp => q_new h hp
    · walk_at "sts"
      exact ⟨rfl, rfl⟩
  · walk_at "sts"
    exact ⟨rfl, rfl⟩
def sp__law_take (K : PySem.W.Frag) (mg : Str → Option Value) : Sp := fun vs H Q _ => match vs with | [.ref p, .int m] => ∃ n : Int, H p = some (.lst [.int n]) ∧ 1 ≤ m ∧ m < 1000000000000 ∧ ∀ r n' : Int, 0 ≤ r → r < m → Q (.int r) (upd H p (.lst [.int n'])) | _ => False
theorem q__law_take {H : Hp} {Q : VK} {E : XK} {p : Addr} {m : Int} (q : ∃ n : Int, H p = some (.lst [.int n]) ∧ 1 ≤ m ∧ m < 1000000000000 ∧ ∀ r n' : Int, 0 ≤ r → r < m → Q (.int r) (upd H p (.lst [.int n']))) : sp__law_take K mg [.ref p, .int m] H Q E := q
local macro_rules | `(tactic| walk_at "op") => `(tactic| with_reducible refine q__law_take ?_)
theorem c__law_take (T : Txt K mg base) : Cal P w K mg base 1 "_law_take" (sp__law_take K mg) := by
  refine T.d__law_take.cal (k := 0) sc__law_take (by intro vs H Q E h; unfold sp__law_take at h; split at h <;> first | rfl | exact h.elim) fun f cdv A outer s H vs Q E hr h => ?_
  refine ⟨_, (pss_cons (ps_set (i := 2) sc__law_take.nd rfl (.inl rfl) (pe_op op_mod (pe_ix ix_seq (pv 0) pe_int (fun _ _ => rfl)) (pv 1)))
    (pss_cons (ps_asg (pe_op op_fdivW (pe_ix ix_seq (pv 0) pe_int (fun _ _ => rfl)) (pv 1)) (pg_sub (pv 0) pe_int set_list))
    (pss_one (ps_ret (pv 2))))), ?_⟩
  try simp only [cxOf_K, cxOf_K', cxOf_mg, cxOf_mg']
  unfold sp__law_take at h
  split at h
  case h_2 => exact h.elim
  rename_i p m
  rw [show L2.start ["_law_state", "_law_many", "_law_digit"] [V.ref p, V.int m] = [some (V.ref p), some (V.int m), none] from rfl]
  obtain ⟨n, hp, h1, h2, q⟩ := h
  walk_at "sts"
  refine L_ixL (.of hp) rfl ?_
  walk_at "sts"
  refine L_I (by omega) ?_
  walk_at "sts"
  refine L_ixL (.of hp) rfl ?_
  walk_at "sts"
  refine L_I (cdiv_lit (by omega)) ?_
  walk_at "sts"
  refine L_setL hp rfl ?_
  walk_at "sts"
  exact q _ _ (Int.emod_nonneg _ (by omega)) (Int.emod_lt_of_pos _ (by omega))
/-- all but the list at p stands -/
def But (p : Addr) (H H' : Hp) : Prop := ∀ b o, H b = some o → b ≠ p → H' b = some o
theorem But.refl {p : Addr} {H : Hp} : But p H H := fun _ _ h _ => h
theorem But.trans {p : Addr} {H H1 H2 : Hp} (a : But p H H1) (b : But p H1 H2) : But p H H2 := fun x o h n => b x o (a x o h n) n
theorem But.same {p : Addr} {H H' : Hp} (s : Same H H') : But p H H' := fun _ _ h _ => s _ _ h
theorem But.upd {p : Addr} {H H1 : Hp} {o : HO} (a : But p H H1) : But p H (upd H1 p o) := fun b o' h n => by rw [upd_ne n]; exact a b o' h n
def g13 (first step bits : Int) (i : Nat) : Option Int := if Builtin.bitAnd (bits / 2 ^ i) 1 = 1 then some ((first + step * (i : Int)) % 100) else none
def sp__law_kept (K : PySem.W.Frag) (mg : Str → Option Value) : Sp := fun vs H Q _ => match vs with | [.ref p] => ∃ n : Int, H p = some (.lst [.int n]) ∧ ∀ (ks : List Int) (n' : Int) a H', ks.length ≤ 6 → (∀ k ∈ ks, 0 ≤ k ∧ k < 100) → But p H H' → H' p = some (.lst [.int n']) → H a = none → H' a = some (.lst (ks.map V.int)) → Q (.ref a) H' | _ => False
theorem q__law_kept {H : Hp} {Q : VK} {E : XK} {p : Addr} (q : ∃ n : Int, H p = some (.lst [.int n]) ∧ ∀ (ks : List Int) (n' : Int) a H', ks.length ≤ 6 → (∀ k ∈ ks, 0 ≤ k ∧ k < 100) → But p H H' → H' p = some (.lst [.int n']) → H a = none → H' a = some (.lst (ks.map V.int)) → Q (.ref a) H') : sp__law_kept K mg [.ref p] H Q E := q
local macro_rules | `(tactic| walk_at "op") => `(tactic| with_reducible refine q__law_kept ?_)
theorem c__law_kept (T : Txt K mg base) : Cal P w K mg base 2 "_law_kept" (sp__law_kept K mg) := by
  refine T.d__law_kept.cal (k := 1) sc__law_kept (by intro vs H Q E h; unfold sp__law_kept at h; split at h <;> first | rfl | exact h.elim) fun f cdv A outer s H vs Q E hr h => ?_
  refine ⟨_, (pss_cons (ps_set (i := 1) sc__law_kept.nd rfl (.inr rfl) (pe_c (c__law_take T) hr (by decide) (by rfl) (pa_cons (pv 0) (pa_cons pe_int pa_nil))))
    (pss_cons (ps_set (i := 2) sc__law_kept.nd rfl (.inr rfl) (pe_ix ix_seq (pe_lst (pa_cons pe_int (pa_cons pe_int (pa_cons pe_int (pa_cons pe_int (pa_cons pe_int (pa_cons pe_int (pa_cons pe_int (pa_cons pe_int (pa_cons pe_int (pa_cons pe_int pa_nil))))))))))) (pe_c (c__law_take T) hr (by decide) (by rfl) (pa_cons (pv 0) (pa_cons pe_int pa_nil))) (fun _ _ => rfl)))
    (pss_cons (ps_asg (pe_lc (own := [("_law_k", 5)]) (g := (gName 5)) (tt := tYes) (te := (tOp (rI (fun _ j => 0 < j) fun i j => .int (i % j)) (tOp (aAdd K) (tVar 1) (tOp aMul (tVar 2) (tVar 5))) (tC (.int 100)))) rfl sc__law_kept.nd (pi_range1 (by rfl) T.n_range (pa_cons pe_int pa_nil)) (blkOk_by (N := ["_law_state", "_law_first", "_law_step", "_law_places", "_law_bits", "_law_k"]) (sc := defScope s__law_kept) (by decide +kernel)) (fun _ _ _ _ _ => by exact (pg_name (i := 5) sc__law_kept.nd rfl (.inl rfl))) (fun _ _ _ _ _ => pts_nil) (fun _ _ _ _ _ => by exact (pe_op op_mod (pe_op op_addA (pv 1) (pe_op op_mulA (pv 2) (pv 5))) pe_int))) (pg_name (i := 3) sc__law_kept.nd rfl (.inr rfl)))
    (pss_cons (ps_set (i := 4) sc__law_kept.nd rfl (.inr rfl) (pe_c (c__law_take T) hr (by decide) (by rfl) (pa_cons (pv 0) (pa_cons pe_int pa_nil))))
    (pss_one (ps_ret (pe_lc (own := [("_law_k", 5)]) (g := (gName 5)) (tt := (tTest (tOp (aEq K) (tOp (rI0 fun i j => .int (Builtin.bitAnd i j)) (tOp (rI (fun _ j => 0 ≤ j) fun i j => .int (i / 2 ^ j.toNat)) (tVar 4) (tVar 5)) (tC (.int 1))) (tC (.int 1))))) (te := (tOp (rIx K) (tVar 3) (tVar 5))) rfl sc__law_kept.nd (pi_range1 (by rfl) T.n_range (pa_cons pe_int pa_nil)) (blkOk_by (N := ["_law_state", "_law_first", "_law_step", "_law_places", "_law_bits", "_law_k"]) (sc := defScope s__law_kept) (by decide +kernel)) (fun _ _ _ _ _ => by exact (pg_name (i := 5) sc__law_kept.nd rfl (.inl rfl))) (fun _ _ _ _ _ => by exact pts_one (pt_cmpR (op_eqA hr) (pe_op op_and (pe_op op_shr (pv 4) (pv 5)) pe_int) pe_int (nomark _))) (fun _ _ _ _ _ => by exact (pe_ix ix_seq (pv 3) (pv 5) (fun _ _ => rfl)))))))))), ?_⟩
  try simp only [cxOf_K, cxOf_K', cxOf_mg, cxOf_mg']
  unfold sp__law_kept at h
  split at h
  case h_2 => exact h.elim
  rename_i p
  rw [show L2.start ["_law_state", "_law_first", "_law_step", "_law_places", "_law_bits", "_law_k"] [V.ref p] = [some (V.ref p), none, none, none, none, none] from rfl]
  obtain ⟨n, hp, q⟩ := h
  walk_at "sts"
  refine ⟨n, hp, by decide, by decide, fun first n1 f0 f1 => ?_⟩
  walk_at "sts"
  walk_at "nw"
  rename_i l hl H2 s2 e2
  have b2 : But p H H2 := (But.refl.upd).trans (.same s2)
  have p2 : H2 p = some (.lst [.int n1]) := s2 _ _ upd_same
  walk_at "sts"
  refine ⟨n1, p2, by decide, by decide, fun i n2 i0 i1 => ?_⟩
  have nl : l ≠ p := fun z => by rw [z, upd_same] at hl; cases hl
  refine L_menu (ns := [1, 3, 7, 9, 11, 13, 17, 19, 33, 77]) (.of (by rw [upd_ne nl]; exact e2)) i0 i1 fun step hstep => ?_
  have hs : 1 ≤ step ∧ step ≤ 77 := by
    simp at hstep; omega
  have b3 : But p H (upd H2 p (.lst [.int n2])) := b2.upd
  have p3 : upd H2 p (.lst [.int n2]) p = some (.lst [.int n2]) := upd_same
  generalize upd H2 p (.lst [.int n2]) = H3 at b3 p3 ⊢
  walk_at "sts"
  refine L_r1 (by decide) (by decide) ?_
  refine lc_fm walk_range (fun j => some (.int ((first + step * (j : Int)) % 100))) (by decide) (fun _ _ => True.intro) ?_ ?_
  · rintro j x Ha Hb R R' hj sm ⟨rfl, rfl⟩ q1 q2
    walk_at "sts"
    refine ⟨rfl, ?_⟩
    walk_at "sa"
    refine q1 _ _ ?_ (.refl _)
    rw [Int.zero_add]
  intro p4 H4 hp4 s4 e4
  have e4' : H4 p4 = some (.lst (((List.range 6).map fun j : Nat => (first + step * (j : Int)) % 100).map V.int)) := by rw [e4, fm_map]; rfl
  have b4 := b3.trans (.same s4)
  have p4' := s4 _ _ p3
  have n4 : p4 ≠ p := fun z => by rw [z, p3] at hp4; cases hp4
  walk_at "sts"
  refine ⟨n2, p4', by decide, by decide, fun bits n3 _ _ => ?_⟩
  have b5 : But p H (upd H4 p (.lst [.int n3])) := b4.upd
  have p5 : upd H4 p (.lst [.int n3]) p = some (.lst [.int n3]) := upd_same
  have e5 : upd H4 p (.lst [.int n3]) p4 = some (.lst (((List.range 6).map fun j : Nat => (first + step * (j : Int)) % 100).map V.int)) := by rw [upd_ne n4]; exact e4'
  generalize upd H4 p (.lst [.int n3]) = H5 at b5 p5 e5 ⊢
  walk_at "sts"
  refine L_r1 (by decide) (by decide) ?_
  refine lc_fm walk_range (fun j => (g13 first step bits j).map V.int) (by decide) (fun _ _ => True.intro) ?_ ?_
  · rintro j x Ha Hb R R' hj sm ⟨rfl, rfl⟩ q1 q2
    walk_at "sts"
    refine ⟨rfl, ?_⟩
    walk_at "sts"
    refine L_I (show (0 : Int) ≤ 0 + (j : Int) by omega) ?_
    walk_at "sts"
    have ej : (0 + (j : Int)).toNat = j := by omega
    rw [ej]
    refine L_d (fun c => ?_) (fun c => ?_)
    · walk_at "sts"
      refine L_ixL (.of (sm _ _ e5)) (atI_ints (by omega) (by simp; omega)) ?_
      refine q1 _ _ ?_ (.refl _)
      rw [g13, if_pos c, ej, List.getD_eq_getElem?_getD, List.getElem?_map, List.getElem?_range (by omega)]
      rfl
    · walk_at "sts"
      exact q2 _ (by rw [g13, if_neg c]; rfl) (.refl _)
  intro p6 H6 hp6 s6 e6
  have e6' : H6 p6 = some (.lst (((List.range 6).filterMap (g13 first step bits)).map V.int)) := by rw [e6]; exact congrArg (fun z => some (HO.lst z)) fm_int
  walk_at "sts"
  refine q _ n3 p6 H6 (fm_len' _ 6) (fun k hk => ?_) (b5.trans (.same s6)) (s6 _ _ p5) ?_ e6'
  · obtain ⟨j, _, hj⟩ := List.mem_filterMap.mp hk
    unfold g13 at hj
    split at hj
    · cases hj
      exact ⟨Int.emod_nonneg _ (by decide), Int.emod_lt_of_pos _ (by decide)⟩
    · cases hj
  · cases e : H p6 with
    | none => rfl
    | some o =>
      have ne : p6 ≠ p := fun z => by rw [z, p5] at hp6; cases hp6
      have := b5 _ _ e ne
      rw [hp6] at this
      cases this
theorem but_none {p : Addr} {H H0 : Hp} {o : HO} (b : But p H H0) (e : H0 p = some o) : ∀ x, H0 x = none → H x = none := fun x hx => by
  cases h : H x with
  | none => rfl
  | some u =>
    by_cases c : x = p
    · rw [c, e] at hx; cases hx
    · rw [b x u h c] at hx; cases hx
theorem treeV_mk {K : PySem.W.Frag} {H : Hp} {d : Nat} {ks : List Int} {a : Addr} (h : SqL K H a (ks.map V.int)) : TreeV K H d (.leaf ks) (.ref a) := by cases d <;> exact ⟨a, rfl, h⟩
theorem okT_mk {d : Nat} {ks : List Int} (h : ks.length ≤ 6) (k : ∀ k ∈ ks, 0 ≤ k ∧ k < 100) : OkT d (.leaf ks) := by cases d <;> exact ⟨Nat.le_trans h (by decide), k⟩
/-- what is built on the way: parts in a list -/
def PartT (K : PySem.W.Frag) (d : Nat) (H : Hp) (u : V) (p : Int × Tr) : Prop := ∃ q w, u = .ref q ∧ SqT K H q [.int p.1, w] ∧ TreeV K H d p.2 w
theorem PartT.same {K : PySem.W.Frag} {d : Nat} {H H' : Hp} {u : V} {p : Int × Tr} (h : PartT K d H u p) (s : Same H H') : PartT K d H' u p := by
  obtain ⟨q, w, rfl, h1, h2⟩ := h
  exact ⟨q, w, rfl, s.seqT h1, treeV_same h2 s⟩
/-- each leaf short -/
def Al6 : Nat → Tr → Prop
  | _, .leaf ks => ks.length ≤ 6
  | 0, .node _ => False
  | d + 1, .node ps => ∀ y ∈ ps, Al6 d y.2
theorem al6_leaf {d : Nat} {ks : List Int} : Al6 d (.leaf ks) ↔ ks.length ≤ 6 := by cases d <;> exact Iff.rfl
/-- what _law_tree tells -/
def TreeQ (K : PySem.W.Frag) (p : Addr) (d : Nat) (H : Hp) (Q : VK) : Prop := ∀ (t : Tr) (n : Int) (v : V) (H' : Hp), OkT d t ∧ Al6 d t → TreeV K (rs (fun b => H b = none) H') d t v → But p H H' → H' p = some (.lst [.int n]) → Q v H'
theorem treeQ_leaf {K : PySem.W.Frag} {p : Addr} {d : Nat} {H H0 : Hp} {Q : VK} {n0 : Int} (q : TreeQ K p d H Q) (b0 : But p H H0) (e0 : H0 p = some (.lst [.int n0])) : ∃ n : Int, H0 p = some (.lst [.int n]) ∧ ∀ (ks : List Int) (n' : Int) a H', ks.length ≤ 6 → (∀ k ∈ ks, 0 ≤ k ∧ k < 100) → But p H0 H' → H' p = some (.lst [.int n']) → H0 a = none → H' a = some (.lst (ks.map V.int)) → Q (.ref a) H' :=
  ⟨n0, e0, fun ks n' a H' h1 h2 b hp' ha e => q (.leaf ks) n' _ H' ⟨okT_mk h1 h2, al6_leaf.mpr h1⟩ (treeV_mk (.of (rs_at (but_none b0 e0 a ha) e))) (b0.trans b) hp'⟩
def spq__law_tree (D : Nat) (K : PySem.W.Frag) (mg : Str → Option Value) : Sp := fun vs H Q _ => match vs with | [.ref p, .int i] => ∃ (n : Int) (d : Nat), i = (d : Int) ∧ d ≤ D ∧ H p = some (.lst [.int n]) ∧ TreeQ K p d H Q | _ => False
def spr__law_tree : Nat → PySem.W.Frag → (Str → Option Value) → Sp
  | 0, _, _ => fun _ _ _ _ => False
  | D + 1, K, mg => spq__law_tree D K mg
abbrev sp__law_tree (K : PySem.W.Frag) (mg : Str → Option Value) : Sp := spr__law_tree 5 K mg
theorem cr__law_tree (T : Txt K mg base) : ∀ D : Nat, Cal P w K mg base (2 + D) "_law_tree" (spr__law_tree D K mg)
  | 0 => T.d__law_tree.calF
  | D + 1 => by
    have ih := cr__law_tree T D
    refine T.d__law_tree.cal (k := 2 + D) sc__law_tree (by intro vs H Q E h; replace h : spq__law_tree D K mg vs H Q E := h; unfold spq__law_tree at h; split at h <;> first | rfl | exact h.elim) fun f cdv A outer s H vs Q E hr h => ?_
    refine ⟨_, (pss_cons (ps_if (PW.pt (pw_or (pt_cmpR (op_eqA hr) (pv 1) pe_int (nomark _)) (pw_or1 (pt_cmpR (op_eqA hr) (pe_c (c__law_take T) hr (by omega) (by rfl) (pa_cons (pv 0) (pa_cons pe_int pa_nil))) pe_int (nomark _)))))
    (pss_one (ps_ret (pe_c (c__law_kept T) hr (by omega) (by rfl) (pa_cons (pv 0) pa_nil))))
    pss_nil)
    (pss_cons (ps_set (i := 2) sc__law_tree.nd rfl (.inl rfl) (pe_lst pa_nil))
    (pss_cons (ps_for PassesOwn.never rfl (pi_range1 (by rfl) T.n_range (pa_cons (pe_op op_addA pe_int (pe_c (c__law_take T) hr (by omega) (by rfl) (pa_cons (pv 0) (pa_cons pe_int pa_nil)))) pa_nil)) (pg_name (i := 3) sc__law_tree.nd rfl (.inl rfl))
    (pss_cons (ps_set (i := 4) sc__law_tree.nd rfl (.inl rfl) (pe_op op_addA pe_int (pe_c (c__law_take T) hr (by omega) (by rfl) (pa_cons (pv 0) (pa_cons (pe_ix ix_seq (pe_lst (pa_cons pe_int (pa_cons pe_int (pa_cons pe_int (pa_cons (pe_op op_pow pe_int pe_int) pa_nil))))) (pe_c (c__law_take T) hr (by omega) (by rfl) (pa_cons (pv 0) (pa_cons pe_int pa_nil))) (fun _ _ => rfl)) pa_nil)))))
    (pss_one (ps_expr (pe_bm PySem.F.plainAttrs_list PySem.F.slot_list_append PySem.F.type_list_append mt_append (pv 2) (pa_cons (pe_tup (pa_cons (pv 4) (pa_cons (pe_c ih hr (by omega) (by rfl) (pa_cons (pv 0) (pa_cons (pe_op op_sub (pv 1) pe_int) pa_nil))) pa_nil))) pa_nil))))))
    (pss_one (ps_ret (pe_callTy call_tuple1A (by rfl) T.n_tuple (by decide +kernel) (pa_cons (pv 2) pa_nil))))))), ?_⟩
    try simp only [cxOf_K, cxOf_K', cxOf_mg, cxOf_mg']
    replace h : spq__law_tree D K mg vs H Q E := h
    unfold spq__law_tree at h
    split at h
    case h_2 => exact h.elim
    rename_i p i
    rw [show L2.start ["_law_state", "_law_deep", "_law_parts", "_law_k", "_law_many"] [V.ref p, V.int i] = [some (V.ref p), some (V.int i), none, none, none] from rfl]
    obtain ⟨n, d, rfl, hd, hp, q⟩ := h
    walk_at "sts"
    refine L_d (fun c => ?_) (fun c => ?_)
    · walk_at "sts"
      exact treeQ_leaf q .refl hp
    walk_at "sts"
    refine ⟨n, hp, by decide, by decide, fun r n1 _ _ => ?_⟩
    walk_at "sts"
    refine L_d (fun c2 => ?_) (fun c2 => ?_)
    · walk_at "sts"
      exact treeQ_leaf q But.refl.upd upd_same
    obtain ⟨e, rfl⟩ : ∃ e, d = e + 1 := ⟨d - 1, by omega⟩
    have b1 : But p H (upd H p (.lst [.int n1])) := But.refl.upd
    have p1 : upd H p (.lst [.int n1]) p = some (.lst [.int n1]) := upd_same
    generalize upd H p (.lst [.int n1]) = H1 at b1 p1 ⊢
    walk_at "sts"
    walk_at "nw"
    rename_i D1 hD H2 s2 e2
    have b2 := b1.trans (.same s2)
    have p2 := s2 _ _ p1
    have nD : D1 ≠ p := fun z => by rw [z, p1] at hD; cases hD
    have nH := but_none b1 p1 _ hD
    walk_at "sts"
    refine ⟨n1, p2, by decide, by decide, fun r2 n2 r0 r1 => ?_⟩
    have b3 : But p H (upd H2 p (.lst [.int n2])) := b2.upd
    have p3 : upd H2 p (.lst [.int n2]) p = some (.lst [.int n2]) := upd_same
    have e3 : upd H2 p (.lst [.int n2]) D1 = some (.lst []) := by rw [upd_ne nD]; exact e2
    generalize upd H2 p (.lst [.int n2]) = H3 at b3 p3 e3 ⊢
    walk_at "sts"
    refine L_r1 (by omega) (by omega) ?_
    refine f_range (fun i σ' H' => ∃ (ps : List (Int × Tr)) (us : List V) (m : Int) (v3 v4 : Option V), σ' = [some (.ref p), some (.int ((e + 1 : Nat) : Int)), some (.ref D1), v3, v4] ∧ But p H H' ∧ H' p = some (.lst [.int m]) ∧ H' D1 = some (.lst us) ∧ ps.length = i ∧ (∀ x ∈ ps, (1 ≤ x.1 ∧ x.1 ≤ 1000000000) ∧ OkT e x.2 ∧ Al6 e x.2) ∧ Paired (PartT K e (rs (fun b => H b = none ∧ b ≠ D1) H')) us ps) ⟨[], [], n2, _, _, rfl, b3, p3, e3, rfl, (fun x hx => nomatch hx), .nil⟩ ?_ ?_
    · rintro i σ' H4 hi ⟨ps, us, m, v3, v4, rfl, b4, p4, e4, hl, hok, hP⟩
      walk_at "sa"
      walk_at "nw"
      rename_i l hl5 H5 s5 e5
      walk_at "sts"
      refine ⟨m, s5 _ _ p4, by decide, by decide, fun j m1 j0 j1 => ?_⟩
      have nl : l ≠ p := fun z => by rw [z, p4] at hl5; cases hl5
      refine L_menu (ns := [3, 3, 12, 1000000000]) (.of (by rw [upd_ne nl]; exact e5)) j0 j1 fun big hbig => ?_
      have hb : 1 ≤ big ∧ big ≤ 1000000000 := by
        simp at hbig; omega
      walk_at "sts"
      refine ⟨m1, upd_same, by omega, by omega, fun x m2 x0 x1 => ?_⟩
      have b46 : But p H4 (upd (upd H5 p (.lst [.int m1])) p (.lst [.int m2])) := (But.same s5).upd.upd
      have p6 : upd (upd H5 p (.lst [.int m1])) p (.lst [.int m2]) p = some (.lst [.int m2]) := upd_same
      generalize upd (upd H5 p (.lst [.int m1])) p (.lst [.int m2]) = H6 at b46 p6 ⊢
      have e6 := b46 _ _ e4 nD
      walk_at "sts"
      refine L_tyL (.of e6) ?_
      walk_at "sts"
      cases D with
      | zero => omega
      | succ D =>
      refine ⟨m2, e, by omega, by omega, p6, fun t m3 v H7 okt tv b7 p7 => ?_⟩
      walk_at "sts"
      walk_at "nw"
      rename_i q8 hq8 H8 s8 e8
      have e7 := b7 _ _ e6 nD
      walk_at "sts"
      refine L_app (s8 _ _ e7) (sz_lt (by have := Paired.length hP; omega)) ?_
      walk_at "sts"
      have b8 : But p H H8 := b4.trans (b46.trans (b7.trans (.same s8)))
      have n8 : H8 D1 = some (.lst us) := s8 _ _ e7
      have q8n : H q8 = none ∧ q8 ≠ D1 := ⟨but_none (b4.trans (b46.trans b7)) p7 _ hq8, fun z => by rw [z, e7] at hq8; cases hq8⟩
      have reg : ∀ b o, (H b = none ∧ b ≠ D1) → H8 b = some o → (H b = none ∧ b ≠ D1) ∧ upd H8 D1 (.lst (us ++ [.ref q8])) b = some o := fun b o hb h8 => ⟨hb, by rw [upd_ne hb.2]; exact h8⟩
      refine ⟨ps ++ [(1 + x, t)], us ++ [.ref q8], m3, _, _, rfl, fun b o hb ne => ?_, ?_, upd_same, by simp [hl], fun y hy => ?_, ?_⟩
      · rw [upd_ne fun z => by rw [z, nH] at hb; cases hb]
        exact b8 b o hb ne
      · rw [upd_ne nD.symm]
        exact s8 _ _ p7
      · rcases List.mem_append.mp hy with hy | hy
        · exact hok y hy
        · rw [List.mem_singleton.mp hy]
          exact ⟨by omega, okt⟩
      · refine paired_app (paired_imp2 (fun u y h => h.same (rs_same fun b o hb h4 => reg b o hb (by
          have bp : b ≠ p := fun z => by rw [z, hp] at hb; cases hb.1
          exact s8 _ _ (b7 _ _ (b46 _ _ h4 bp) bp)))) hP) (.cons ⟨q8, v, rfl, .of (rs_at q8n (reg _ _ q8n e8).2), treeV_same tv (rs_same fun b o hb h7 => reg b o (by
          exact ⟨but_none (b4.trans b46) p6 _ hb, fun z => by rw [z, e6] at hb; cases hb⟩) (s8 _ _ h7))⟩ .nil)
    · rintro σ' H4 ⟨ps, us, m, v3, v4, rfl, b4, p4, e4, hl, hok, hP⟩
      walk_at "sts"
      refine L_tuple1 (.of e4) fun l hl5 => ?_
      walk_at "sts"
      have s5 := same_new (o := .tup us) hl5
      refine q (.node ps) m (.ref l) _ ⟨⟨fun z => ?_, by omega, fun p hp => ⟨(hok p hp).1, (hok p hp).2.1⟩⟩, fun p hp => (hok p hp).2.2⟩ ⟨l, us, rfl, .of (rs_at (but_none b4 p4 _ hl5) upd_same), paired_imp2 (fun u x h => h.same (rs_same fun a o pa ha => ⟨pa.1, s5 _ _ ha⟩)) hP⟩ (b4.trans (.same s5)) (s5 _ _ p4)
      rw [z] at hl
      simp at hl
      omega
theorem c__law_tree (T : Txt K mg base) : Cal P w K mg base 7 "_law_tree" (sp__law_tree K mg) := cr__law_tree T 5
theorem q_nn {r : Rat} (h : 0 ≤ r) : 0 ≤ (qt r).1 := Rat.num_nonneg.mpr h
theorem putK_len {kvs : List (List Key × V)} {k : List Key} {v : V} : (putK kvs k v).length ≤ kvs.length + 1 := by
  unfold putK
  split
  · rw [List.length_map]; omega
  · rw [List.length_append]; simp
/-- all but the dict at D stands -/
def Bdt (D : Addr) (H H' : Hp) : Prop := ∀ b o, H b = some o → b ≠ D → H' b = some o
theorem Bdt.refl {p : Addr} {H : Hp} : Bdt p H H := fun _ _ h _ => h
theorem Bdt.trans {p : Addr} {H H1 H2 : Hp} (a : Bdt p H H1) (b : Bdt p H1 H2) : Bdt p H H2 := fun x o h n => b x o (a x o h n) n
theorem Bdt.same {p : Addr} {H H' : Hp} (s : Same H H') : Bdt p H H' := fun _ _ h _ => s _ _ h
theorem Bdt.upd {p : Addr} {H H1 : Hp} {o : HO} (a : Bdt p H H1) : Bdt p H (upd H1 p o) := fun b o' h n => by rw [upd_ne n]; exact a b o' h n
theorem Bdt.ne {D a : Addr} {H H' : Hp} {o : HO} {kvs : List (List Key × V)} (b : Bdt D H H') (hd : H D = some (.dT kvs)) (ha : H a = some o) (hn : ∀ kvs, o ≠ .dT kvs) : H' a = some o := b a o ha fun z => by rw [z, hd] at ha; cases ha; exact hn _ rfl
theorem Bdt.seqT {K : PySem.W.Frag} {D a : Addr} {H H' : Hp} {kvs : List (List Key × V)} {xs : List V} (b : Bdt D H H') (hd : H D = some (.dT kvs)) (h : SqT K H a xs) : SqT K H' a xs := by
  rcases h with (h | ⟨o, h⟩) | h
  · exact .inl (.inl (b.ne hd h (fun _ z => nomatch z)))
  · exact .inl (.inr ⟨o, b.ne hd h (fun _ z => nomatch z)⟩)
  · exact .inr h
theorem Bdt.seqL {K : PySem.W.Frag} {D a : Addr} {H H' : Hp} {kvs : List (List Key × V)} {xs : List V} (b : Bdt D H H') (hd : H D = some (.dT kvs)) (h : SqL K H a xs) : SqL K H' a xs := by
  rcases h with (h | ⟨o, h⟩) | h
  · exact .inl (.inl (b.ne hd h (fun _ z => nomatch z)))
  · exact .inl (.inr ⟨o, b.ne hd h (fun _ z => nomatch z)⟩)
  · exact .inr h
theorem Bdt.tree {K : PySem.W.Frag} {D : Addr} {H H' : Hp} {kvs : List (List Key × V)} {d : Nat} {t : Tr} {v : V} (b : Bdt D H H') (hd : H D = some (.dT kvs)) (h : TreeV K H d t v) : TreeV K H' d t v := treeV_gen (fun _ _ => b.seqL hd) (fun _ _ => b.seqT hd) d t v h
theorem okT_okW : ∀ {d : Nat} {t : Tr}, OkT d t → OkW d t
  | 0, .leaf _, _ => trivial
  | d + 1, .leaf _, _ => trivial
  | 0, .node _, h => h.elim
  | d + 1, .node ps, h => by
    obtain ⟨hne, hl, hp⟩ := h
    have key : ∀ qs : List (Int × Tr), (∀ p ∈ qs, 1 ≤ p.1 ∧ p.1 ≤ 1000000000) → (∀ p ∈ qs, p.1 ≤ sidesT qs) ∧ 0 ≤ sidesT qs ∧ sidesT qs ≤ 1000000000 * qs.length := fun qs => by
      induction qs with
      | nil => intro _; exact ⟨(fun _ z => nomatch z), by decide, by decide⟩
      | cons q qs ih =>
        intro h
        obtain ⟨a1, a2, a3⟩ := ih fun p hp => h p (List.mem_cons_of_mem _ hp)
        have h0 := h q List.mem_cons_self
        have e : sidesT (q :: qs) = q.1 + sidesT qs := by unfold sidesT; rw [List.map_cons, List.sum_cons]
        rw [e, List.length_cons]
        refine ⟨fun p hp => ?_, by omega, by omega⟩
        rcases List.mem_cons.mp hp with rfl | hp
        · omega
        · have := a1 p hp
          omega
    obtain ⟨k1, k2, k3⟩ := key ps fun p h => (hp p h).1
    obtain ⟨p0, hp0⟩ := List.exists_mem_of_ne_nil ps hne
    have := k1 p0 hp0
    have := (hp p0 hp0).1
    exact ⟨by omega, by omega, fun y hy => ⟨⟨by have := (hp y hy).1; omega, k1 y hy⟩, okT_okW (hp y hy).2⟩⟩
theorem ways_srt : ∀ {d : Nat} {t : Tr} {r : Rat}, waysQ d (srtT d t) r = (waysQ d t r).map fun z => (srtI z.1, z.2)
  | 0, .leaf _, _ => rfl
  | d + 1, .leaf _, _ => rfl
  | 0, .node _, _ => rfl
  | d + 1, .node ps, r => by
    have e : sidesT (ps.map fun y => (y.1, srtT d y.2)) = sidesT ps := by unfold sidesT; rw [List.map_map]; rfl
    show (ps.map fun y => (y.1, srtT d y.2)).flatMap (fun y => waysQ d y.2 (r * ((y.1 : Rat) / sidesT (ps.map fun y => (y.1, srtT d y.2))))) = (ps.flatMap fun y => waysQ d y.2 (r * ((y.1 : Rat) / sidesT ps))).map _
    rw [e, List.flatMap_map, List.map_flatMap]
    congr 1
    funext y
    exact ways_srt
/-- into a table, way by way -/
def addAll (Z : Wt) (W : Wt) : Wt := W.foldl (fun Z w => addW Z w.1 w.2) Z
theorem addAll_app {Z A B : Wt} : addAll Z (A ++ B) = addAll (addAll Z A) B := List.foldl_append ..
/-- a table whose shares have a bottom in common -/
structure TabW (D : Int) (Z : Wt) (m : Rat) : Prop where
  p : ∀ z ∈ Z, 0 ≤ z.2 ∧ isI (z.2 * (D : Rat))
  n : (Z.map (·.1)).Nodup
  s : evW (fun _ => 1) Z = m
theorem TabW.add {D : Int} {Z : Wt} {m : Rat} {k : List Int} {v : Rat} (h : TabW D Z m) (v0 : 0 ≤ v) (vi : isI (v * (D : Rat))) : TabW D (addW Z k v) (m + v) := by
  refine ⟨fun z hz => ?_, nd_addW h.n, by rw [evW_add, h.s]; grind⟩
  rcases mem_addW hz with ⟨y, hy, _, e | e⟩ | ⟨_, e⟩
  · rw [e]; exact h.p y hy
  · obtain ⟨y0, y1⟩ := h.p y hy
    rw [e]
    exact ⟨by grind, by rw [Rat.add_mul]; exact isI_add y1 vi⟩
  · have e2 : 0 + v = v := by grind
    rw [e, e2]
    exact ⟨v0, vi⟩
theorem TabW.addAll {D : Int} : ∀ {W Z : Wt} {m : Rat}, TabW D Z m → (∀ w ∈ W, 0 ≤ w.2 ∧ isI (w.2 * (D : Rat))) → TabW D (addAll Z W) (m + evW (fun _ => 1) W)
  | [], Z, m, h, _ => by
    have : m + evW (fun _ => 1) ([] : Wt) = m := by show m + 0 = m; grind
    rw [this]
    exact h
  | w :: W, Z, m, h, hw => by
    obtain ⟨a, b⟩ := hw w List.mem_cons_self
    have := TabW.addAll (h.add (k := w.1) a b) fun z hz => hw z (List.mem_cons_of_mem _ hz)
    have e : m + evW (fun _ => 1) (w :: W) = m + w.2 + evW (fun _ => 1) W := by
      show m + (w.2 * 1 + evW (fun _ => 1) W) = _
      grind
    rw [e]
    exact this
theorem TabW.bd {D : Int} {Z : Wt} {m : Rat} {k : Nat} (d0 : 0 < D) (d1 : D ≤ 2 ^ k) (h : TabW D Z m) (m1 : m ≤ 1) {z : List Int × Rat} (hz : z ∈ Z) : BdQ (k + 1) z.2 ∧ 0 ≤ z.2 := by
  obtain ⟨a, b⟩ := h.p z hz
  have := GoodW.le1 (D := D) (fun y hy => (h.p y hy).1) hz
  rw [h.s] at this
  exact ⟨bdq_isI d0 d1 b a (by grind), a⟩
theorem TabW.look {D : Int} {Z : Wt} {m : Rat} {k : Nat} (d0 : 0 < D) (d1 : D ≤ 2 ^ k) (h : TabW D Z m) (m1 : m ≤ 1) (x : List Int) : BdQ (k + 1) (lookW Z x) := by
  by_cases c : x ∈ Z.map (·.1)
  · obtain ⟨z, hz, _, e⟩ := lookW_at c
    rw [← e]
    exact (h.bd d0 d1 m1 hz).1
  · have : ∀ {Z : Wt}, x ∉ Z.map (·.1) → lookW Z x = 0 := fun {Z} => by
      induction Z with
      | nil => intro _; rfl
      | cons z Z ih =>
        intro h
        rw [List.map_cons, List.mem_cons] at h
        unfold lookW
        rw [if_neg fun e => h (.inl e.symm)]
        exact ih fun e => h (.inr e)
    rw [this c]
    exact BdQ.mono (n := 1) ⟨by unfold Bd; decide +kernel, by unfold Bd; decide +kernel⟩ (by omega)
theorem q_self {S : Rat} (h : 0 < S) : S / S = 1 := by grind
theorem evW_keys {f : List Int → List Int} : ∀ {W : Wt}, evW (fun _ => 1) (W.map fun z => (f z.1, z.2)) = evW (fun _ => 1) W
  | [] => rfl
  | w :: W => by
    show w.2 * 1 + evW (fun _ => 1) (W.map fun z => (f z.1, z.2)) = w.2 * 1 + evW (fun _ => 1) W
    rw [evW_keys]
theorem addAll_len : ∀ (W Z : Wt), (addAll Z W).length ≤ Z.length + W.length
  | [], Z => Nat.le_refl _
  | w :: W, Z => by
    have h1 := addAll_len W (addW Z w.1 w.2)
    have h2 := len_addW (Z := Z) (k := w.1) (v := w.2)
    show (addAll (addW Z w.1 w.2) W).length ≤ _
    rw [List.length_cons]
    omega
theorem ways_nn : ∀ {d : Nat} {t : Tr} {r : Rat}, OkW d t → 0 ≤ r → ∀ w ∈ waysQ d t r, 0 ≤ w.2 := fun ok r0 w hw => by
  obtain ⟨s, e, s0, _⟩ := ways_p ok _ w hw
  rw [e]
  exact Rat.mul_nonneg r0 s0
def sp__law_divisor (K : PySem.W.Frag) (mg : Str → Option Value) : Sp := fun vs H Q _ => match vs with | [.int a, .int b] => 0 ≤ b ∧ Q (.int (gc a b)) H | _ => False
theorem q__law_divisor {H : Hp} {Q : VK} {E : XK} {a : Int} {b : Int} (q : 0 ≤ b ∧ Q (.int (gc a b)) H) : sp__law_divisor K mg [.int a, .int b] H Q E := q
local macro_rules | `(tactic| walk_at "op") => `(tactic| with_reducible refine q__law_divisor ?_)
theorem c__law_divisor (T : Txt K mg base) : Cal P w K mg base 1 "_law_divisor" (sp__law_divisor K mg) := by
  refine T.d__law_divisor.cal (k := 0) sc__law_divisor (by intro vs H Q E h; unfold sp__law_divisor at h; split at h <;> first | rfl | exact h.elim) fun f cdv A outer s H vs Q E hr h => ?_
  refine ⟨_, (pss_cons (ps_while PassesOwn.never (pt_cmpR (op_neA hr) (pv 1) pe_int (nomark _))
    (pss_one (ps_par (i := 0) (j := 1) rfl sc__law_divisor.nd rfl rfl (by decide) rfl rfl (pa_cons (pv 1) (pa_cons (pe_op op_mod (pv 0) (pv 1)) pa_nil)) (by rfl))))
    (pss_one (ps_ret (pe_callB call_absA (by rfl) T.n_abs (by decide +kernel) (pa_cons (pv 0) pa_nil))))), ?_⟩
  try simp only [cxOf_K, cxOf_K', cxOf_mg, cxOf_mg']
  unfold sp__law_divisor at h
  split at h
  case h_2 => exact h.elim
  rename_i a b
  rw [show L2.start ["_law_one", "_law_other"] [V.int a, V.int b] = [some (V.int a), some (V.int b)] from rfl]
  obtain ⟨hb, q⟩ := h
  walk_at "sts"
  refine L_while (fun m σ' H' => ∃ x y : Int, σ' = [some (.int x), some (.int y)] ∧ 0 ≤ y ∧ gc x y = gc a b ∧ m = y.toNat ∧ H' = H) ⟨_, a, b, rfl, hb, rfl, rfl, rfl⟩ ?_
  rintro m σ' H' ⟨x, y, rfl, hy, e, rfl, rfl⟩
  walk_at "sts"
  refine L_nd (fun c => ?_) (fun c => ?_)
  · refine L_N ?_
    walk_at "sts"
    refine L_I (by omega) ?_
    walk_at "sts"
    have h1 := Int.emod_nonneg x c
    have h2 := Int.emod_lt_of_pos x (show 0 < y by omega)
    exact ⟨(x % y).toNat, by omega, y, x % y, rfl, h1, (gc_step (by omega)).trans e, rfl, rfl⟩
  · subst c
    walk_at "sts"
    rw [gc_zero, e]
    exact q
def sp__law_lowest (K : PySem.W.Frag) (mg : Str → Option Value) : Sp := fun vs H Q _ => match vs with | [.int t, .int b] => 0 < b ∧ Bd 8000 b ∧ NewT H [.int (low t b).1, .int (low t b).2] Q | _ => False
theorem q__law_lowest {H : Hp} {Q : VK} {E : XK} {t : Int} {b : Int} (q : 0 < b ∧ Bd 8000 b ∧ NewT H [.int (low t b).1, .int (low t b).2] Q) : sp__law_lowest K mg [.int t, .int b] H Q E := q
local macro_rules | `(tactic| walk_at "op") => `(tactic| with_reducible refine q__law_lowest ?_)
theorem c__law_lowest (T : Txt K mg base) : Cal P w K mg base 2 "_law_lowest" (sp__law_lowest K mg) := by
  refine T.d__law_lowest.cal (k := 1) sc__law_lowest (by intro vs H Q E h; unfold sp__law_lowest at h; split at h <;> first | rfl | exact h.elim) fun f cdv A outer s H vs Q E hr h => ?_
  refine ⟨_, (pss_cons (ps_set (i := 2) sc__law_lowest.nd rfl (.inl rfl) (pe_c (c__law_divisor T) hr (by decide) (by rfl) (pa_cons (pv 0) (pa_cons (pv 1) pa_nil))))
    (pss_one (ps_ret (pe_tup (pa_cons (pe_op op_fdivW (pv 0) (pv 2)) (pa_cons (pe_op op_fdivW (pv 1) (pv 2)) pa_nil)))))), ?_⟩
  try simp only [cxOf_K, cxOf_K', cxOf_mg, cxOf_mg']
  unfold sp__law_lowest at h
  split at h
  case h_2 => exact h.elim
  rename_i t b
  rw [show L2.start ["_law_top", "_law_bottom", "_law_many"] [V.int t, V.int b] = [some (V.int t), some (V.int b), none] from rfl]
  obtain ⟨hb, hd, q⟩ := h
  have key : CDivW t (gc t b) ∧ CDivW b (gc t b) := by
    have g := gc_pos (a := t) hb
    have l := gc_le (a := t) hb
    have z : Bd 8000 (gc t b) := by
      unfold Bd at *
      omega
    exact ⟨z.cdiv g, z.cdiv g⟩
  have g := gc_pos (a := t) hb
  walk_at "sts"
  refine ⟨by omega, ?_⟩
  walk_at "sts"
  refine L_I key.1 ?_
  walk_at "sts"
  refine L_I key.2 ?_
  walk_at "sts"
  exact L_new (sz_dec (by show 2 ≤ 1000000; decide)) q.at
def sp__law_sum (K : PySem.W.Frag) (mg : Str → Option Value) : Sp := fun vs H Q _ => match vs with | [.ref a, .ref b] => ∃ r s : Rat, QtA K H a r ∧ QtA K H b s ∧ BdQ 3900 r ∧ BdQ 3900 s ∧ NewT H [.int (qt (r + s)).1, .int (qt (r + s)).2] Q | _ => False
theorem q__law_sum {H : Hp} {Q : VK} {E : XK} {a : Addr} {b : Addr} (q : ∃ r s : Rat, QtA K H a r ∧ QtA K H b s ∧ BdQ 3900 r ∧ BdQ 3900 s ∧ NewT H [.int (qt (r + s)).1, .int (qt (r + s)).2] Q) : sp__law_sum K mg [.ref a, .ref b] H Q E := q
local macro_rules | `(tactic| walk_at "op") => `(tactic| with_reducible refine q__law_sum ?_)
theorem c__law_sum (T : Txt K mg base) : Cal P w K mg base 3 "_law_sum" (sp__law_sum K mg) := by
  refine T.d__law_sum.cal (k := 2) sc__law_sum (by intro vs H Q E h; unfold sp__law_sum at h; split at h <;> first | rfl | exact h.elim) fun f cdv A outer s H vs Q E hr h => ?_
  refine ⟨_, (pss_one (ps_ret (pe_c (c__law_lowest T) hr (by decide) (by rfl) (pa_cons (pe_op op_addA (pe_op op_mulA (pe_ix ix_seq (pv 0) pe_int (fun _ _ => rfl)) (pe_ix ix_seq (pv 1) pe_int (fun _ _ => rfl))) (pe_op op_mulA (pe_ix ix_seq (pv 1) pe_int (fun _ _ => rfl)) (pe_ix ix_seq (pv 0) pe_int (fun _ _ => rfl)))) (pa_cons (pe_op op_mulA (pe_ix ix_seq (pv 0) pe_int (fun _ _ => rfl)) (pe_ix ix_seq (pv 1) pe_int (fun _ _ => rfl))) pa_nil))))), ?_⟩
  try simp only [cxOf_K, cxOf_K', cxOf_mg, cxOf_mg']
  unfold sp__law_sum at h
  split at h
  case h_2 => exact h.elim
  rename_i a b
  rw [show L2.start ["_law_one", "_law_other"] [V.ref a, V.ref b] = [some (V.ref a), some (V.ref b)] from rfl]
  obtain ⟨r, s, ha, hb, ⟨r1, r2⟩, ⟨s1, s2⟩, q⟩ := h
  walk_at "sts"
  refine L_ixT ha rfl ?_
  walk_at "sts"
  refine L_ixT hb rfl ?_
  refine L_mulI (r1.cmul s2) ?_
  walk_at "sts"
  refine L_ixT hb rfl ?_
  walk_at "sts"
  refine L_ixT ha rfl ?_
  refine L_mulI (s1.cmul r2) ?_
  walk_at "sts"
  refine L_ixT ha rfl ?_
  walk_at "sts"
  refine L_ixT hb rfl ?_
  refine L_mulI (r2.cmul s2) ?_
  walk_at "sts"
  have hp : 0 < (qt r).2 * (qt s).2 := Int.mul_pos (q_dp r) (q_dp s)
  refine ⟨hp, (r2.mul s2).mono (by decide), ?_⟩
  rw [← shr_low hp, q_add]
  exact q
def sp__law_product (K : PySem.W.Frag) (mg : Str → Option Value) : Sp := fun vs H Q _ => match vs with | [.ref a, .ref b] => ∃ r s : Rat, QtA K H a r ∧ QtA K H b s ∧ BdQ 3900 r ∧ BdQ 3900 s ∧ NewT H [.int (qt (r * s)).1, .int (qt (r * s)).2] Q | _ => False
theorem q__law_product {H : Hp} {Q : VK} {E : XK} {a : Addr} {b : Addr} (q : ∃ r s : Rat, QtA K H a r ∧ QtA K H b s ∧ BdQ 3900 r ∧ BdQ 3900 s ∧ NewT H [.int (qt (r * s)).1, .int (qt (r * s)).2] Q) : sp__law_product K mg [.ref a, .ref b] H Q E := q
local macro_rules | `(tactic| walk_at "op") => `(tactic| with_reducible refine q__law_product ?_)
theorem c__law_product (T : Txt K mg base) : Cal P w K mg base 3 "_law_product" (sp__law_product K mg) := by
  refine T.d__law_product.cal (k := 2) sc__law_product (by intro vs H Q E h; unfold sp__law_product at h; split at h <;> first | rfl | exact h.elim) fun f cdv A outer s H vs Q E hr h => ?_
  refine ⟨_, (pss_one (ps_ret (pe_c (c__law_lowest T) hr (by decide) (by rfl) (pa_cons (pe_op op_mulA (pe_ix ix_seq (pv 0) pe_int (fun _ _ => rfl)) (pe_ix ix_seq (pv 1) pe_int (fun _ _ => rfl))) (pa_cons (pe_op op_mulA (pe_ix ix_seq (pv 0) pe_int (fun _ _ => rfl)) (pe_ix ix_seq (pv 1) pe_int (fun _ _ => rfl))) pa_nil))))), ?_⟩
  try simp only [cxOf_K, cxOf_K', cxOf_mg, cxOf_mg']
  unfold sp__law_product at h
  split at h
  case h_2 => exact h.elim
  rename_i a b
  rw [show L2.start ["_law_one", "_law_other"] [V.ref a, V.ref b] = [some (V.ref a), some (V.ref b)] from rfl]
  obtain ⟨r, s, ha, hb, ⟨r1, r2⟩, ⟨s1, s2⟩, q⟩ := h
  walk_at "sts"
  refine L_ixT ha rfl ?_
  walk_at "sts"
  refine L_ixT hb rfl ?_
  refine L_mulI (r1.cmul s1) ?_
  walk_at "sts"
  refine L_ixT ha rfl ?_
  walk_at "sts"
  refine L_ixT hb rfl ?_
  refine L_mulI (r2.cmul s2) ?_
  walk_at "sts"
  have hp : 0 < (qt r).2 * (qt s).2 := Int.mul_pos (q_dp r) (q_dp s)
  refine ⟨hp, (r2.mul s2).mono (by decide), ?_⟩
  rw [← shr_low hp, q_mul]
  exact q
def spq__law_walk (D : Nat) (K : PySem.W.Frag) (mg : Str → Option Value) : Sp := fun vs H Q _ => match vs with | [v, .ref mu, .ref dd] => ∃ (d : Nat) (t : Tr) (r : Rat) (n : Nat) (B : Int) (m : Rat) (kvs : List (List Key × V)) (Z : Wt), d ≤ D ∧ TreeV K H d t v ∧ OkT d t ∧ QtA K H mu r ∧ BdQ n r ∧ n + 64 * d ≤ 3900 ∧ 0 ≤ r ∧ H dd = some (.dT kvs) ∧ Paired (RtN H) kvs Z ∧ Z.length + (waysQ d t r).length ≤ 5000 ∧ 0 < B ∧ B ≤ 2 ^ 3800 ∧ TabW B Z m ∧ m + r ≤ 1 ∧ (∀ w ∈ waysQ d t r, isI (w.2 * (B : Rat))) ∧ ∀ H' kvs', Bdt dd H H' → H' dd = some (.dT kvs') → Paired (RtN H') kvs' (addAll Z (waysQ d (srtT d t) r)) → Q (.ref dd) H' | _ => False
def spr__law_walk : Nat → PySem.W.Frag → (Str → Option Value) → Sp
  | 0, _, _ => fun _ _ _ _ => False
  | D + 1, K, mg => spq__law_walk D K mg
abbrev sp__law_walk (K : PySem.W.Frag) (mg : Str → Option Value) : Sp := spr__law_walk 7 K mg
theorem cr__law_walk (T : Txt K mg base) : ∀ D : Nat, Cal P w K mg base (3 + D) "_law_walk" (spr__law_walk D K mg)
  | 0 => T.d__law_walk.calF
  | D + 1 => by
    have ih := cr__law_walk T D
    refine T.d__law_walk.cal (k := 3 + D) sc__law_walk (by intro vs H Q E h; replace h : spq__law_walk D K mg vs H Q E := h; unfold spq__law_walk at h; split at h <;> first | rfl | exact h.elim) fun f cdv A outer s H vs Q E hr h => ?_
    refine ⟨_, (pss_cons (ps_if (pt_val (pe_callB call_isi (by rfl) T.n_isinstance (by decide +kernel) (pa_cons (pv 0) (pa_cons (pe_ty "list" (by rfl) T.n_list (by decide +kernel)) pa_nil))))
    (pss_cons (ps_set (i := 3) sc__law_walk.nd rfl (.inl rfl) (pe_callTy call_tuple1A (by rfl) T.n_tuple (by decide +kernel) (pa_cons (pe_callB cr_sortedQ (by rfl) T.n_sorted (by decide +kernel) (pa_cons (pv 0) pa_nil)) pa_nil)))
    (pss_one (ps_dput (hu_of hr) (pv 2) (pv 3) (pe_c (c__law_sum T) hr (by omega) (by rfl) (pa_cons (pe_dget2 (hu_of hr) (pv 2) (pv 3) (pe_tup (pa_cons pe_int (pa_cons pe_int pa_nil))) ⟨rfl, rfl, rfl, rfl⟩) (pa_cons (pv 1) pa_nil))) rfl)))
    (pss_cons (ps_set (i := 6) sc__law_walk.nd rfl (.inl rfl) (pe_callB (cr_sum rfl) (by rfl) T.n_sum (by decide +kernel) (pa_cons (pe_lc (own := [("_law_many", 4), ("_law_part", 5)]) (g := (gTup K 2 (gCons (gName 4) (gCons (gName 5) gNil)))) (tt := tYes) (te := (tVar 4)) rfl sc__law_walk.nd (pi_tup (pv 0)) (blkOk_by (N := ["_law_tree_here", "_law_much", "_law_found", "_law_kept_here", "_law_many", "_law_part", "_law_sides"]) (sc := defScope s__law_walk) (by decide +kernel)) (fun _ _ _ _ _ => by exact (pg_tup rfl (pgs_cons (pg_name (i := 4) sc__law_walk.nd rfl (.inl rfl)) (pgs_cons (pg_name (i := 5) sc__law_walk.nd rfl (.inl rfl)) pgs_nil)))) (fun _ _ _ _ _ => pts_nil) (fun _ _ _ _ _ => by exact (pv 4))) pa_nil)))
    (pss_one (ps_for PassesOwn.never rfl (pi_tup (pv 0)) (pg_tup rfl (pgs_cons (pg_name (i := 4) sc__law_walk.nd rfl (.inl rfl)) (pgs_cons (pg_name (i := 5) sc__law_walk.nd rfl (.inl rfl)) pgs_nil)))
    (pss_one (ps_expr (pe_c ih hr (by omega) (by rfl) (pa_cons (pv 5) (pa_cons (pe_c (c__law_product T) hr (by omega) (by rfl) (pa_cons (pv 1) (pa_cons (pe_c (c__law_lowest T) hr (by omega) (by rfl) (pa_cons (pv 4) (pa_cons (pv 6) pa_nil))) pa_nil))) (pa_cons (pv 2) pa_nil))))))))))
    (pss_one (ps_ret (pv 2)))), ?_⟩
    try simp only [cxOf_K, cxOf_K', cxOf_mg, cxOf_mg']
    replace h : spq__law_walk D K mg vs H Q E := h
    unfold spq__law_walk at h
    split at h
    case h_2 => exact h.elim
    rename_i v mu dd
    rw [show L2.start ["_law_tree_here", "_law_much", "_law_found", "_law_kept_here", "_law_many", "_law_part", "_law_sides"] [v, V.ref mu, V.ref dd] = [some (v), some (V.ref mu), some (V.ref dd), none, none, none, none] from rfl]
    obtain ⟨d, t, r, n, B, m, kvs, Z, hd, hv, hok, hmu, hbr, hn, r0, hdd, hZ, hlen, B0, B1, hTW, hm1, hwi, q⟩ := h
    match d, t, hv, hok, hlen, hwi, q, hd, hn with
    | d, .leaf ks, hv, hok, hlen, hwi, q, hd, hn =>
      obtain ⟨a, rfl, hS⟩ := treeV_leaf hv
      rw [srtT_leaf, waysQ_leaf] at q
      rw [waysQ_leaf] at hlen hwi
      have hl := (okT_leaf hok).1
      walk_at "sts"
      refine L_isi (tyx_L hS) (b := true) (by decide +kernel) ?_
      walk_at "sts"
      refine ⟨a, ks, rfl, .inl hS, fun ns p hp hs hn1 => ?_⟩
      cases srtI_eq hp hs
      walk_at "sts"
      refine L_tuple1 (.of upd_same) fun l hl2 => ?_
      have s1 := same_new (o := .lst ((srtI ks).map V.int)) hn1
      have s2 := s1.trans (same_new (o := .tup ((srtI ks).map V.int)) hl2)
      have hk2 : upd (upd H p (.lst ((srtI ks).map V.int))) l (.tup ((srtI ks).map V.int)) l = some (.tup ((kL (srtI ks)).map kV)) := by rw [kL_v]; exact upd_same
      generalize upd (upd H p (.lst ((srtI ks).map V.int))) l (.tup ((srtI ks).map V.int)) = H2 at s2 hk2 ⊢
      walk_at "sts"
      refine L_isdT (s2 _ _ hdd) ?_
      walk_at "sts"
      walk_at "nw"
      rename_i p6 hp6 H6 s6 e6
      have s26 := s2.trans s6
      have hk6 := s6 _ _ hk2
      have p4 := paired_imp2 (fun _ _ h => RtN.same h s26) hZ
      refine L_dgT (k := kL (srtI ks)) (s26 _ _ hdd) hk6 ?_
      have hz := rt_val (K := K) (k := srtI ks) (paired_imp2 (fun _ _ h => h.rtP) p4)
      have hold : ∃ t, ((valV kvs (kL (srtI ks))).getD (.ref p6)) = .ref t ∧ QtA K H6 t (lookW Z (srtI ks)) := by
        rcases hz with ⟨z1, _, z3⟩ | ⟨t, z1, z2, _⟩
        · rw [z1, z3]
          exact ⟨p6, rfl, .of e6⟩
        · rw [z1]
          exact ⟨t, rfl, z2⟩
      have bo := hTW.look B0 B1 (by grind) (srtI ks)
      obtain ⟨t6, et, ht⟩ := hold
      rw [et]
      walk_at "sts"
      refine ⟨_, _, ht, s26.seqT hmu, bo.mono (by decide), hbr.mono (by omega), fun p7 H7 hp7 s7 e7 => ?_⟩
      have s27 := s26.trans s7
      walk_at "sts"
      have hlk := Paired.length hZ
      simp only [List.length_singleton] at hlen
      refine L_dputT (k := kL (srtI ks)) (s27 _ _ hdd) (s7 _ _ hk6) (by omega) ?_
      have hput := rtn_put K (k := srtI ks) (v := r) (t := p7) (paired_imp2 (fun _ _ h => RtN.same h s7) p4) hTW.n e7
      have e27 := s27 _ _ hdd
      walk_at "sts"
      exact q _ _ (Bdt.same s27).upd upd_same (paired_imp2 (fun _ _ h => RtN.keep h e27 fun b o hb ne => by rw [upd_ne ne]; exact hb) hput)
    | 0, .node ps, hv, hok, hlen, hwi, q, hd, hn => exact hv.elim
    | d + 1, .node ps, hv, hok, hlen, hwi, q, hd, hn =>
      obtain ⟨a, us, rfl, hS, hP⟩ := hv
      have hW := okT_okW hok
      obtain ⟨hne, hl, hoks⟩ := hok
      obtain ⟨sp, sb, hps⟩ := hW
      have ul := Paired.length hP
      walk_at "sts"
      refine L_isi (tyx_T hS) (b := false) (by decide +kernel) ?_
      walk_at "sts"
      refine ⟨a, rfl, ⟨_, hS⟩, ?_⟩
      refine lc_fm walk_tup (fun i => ps[i]?.map fun y => V.int y.1) (by omega) (fun H' e => e.seqT hS) ?_ ?_
      · rintro j x1 Ha Hb R R' hj sm ⟨rfl, hx1⟩ q1 q2
        obtain ⟨y, hy, q0, w, rfl, hq, hT⟩ := paired_nth hP hx1
        refine L_gTup (sm.seqT hq) rfl ?_
        walk_at "sts"
        refine ⟨rfl, ?_⟩
        walk_at "sts"
        exact q1 _ _ (by rw [hy]; rfl) (.refl _)
      intro p1 H1 hp1 s1 e1
      rw [ul, fm_get (fun y : Int × Tr => V.int y.1) ps] at e1
      have e2 : H1 p1 = some (.lst ((ps.map (·.1)).map V.int)) := by rw [e1, List.map_map]; rfl
      walk_at "sts"
      refine L_sum (.of e2) ?_
      rw [show (ps.map (·.1)).sum = sidesT ps from rfl]
      walk_at "sts"
      refine ⟨a, rfl, ⟨_, s1.seqT hS⟩, ?_⟩
      have eW : waysQ (d + 1) (srtT (d + 1) (.node ps)) r = ps.flatMap fun y => waysQ d (srtT d y.2) (r * ((y.1 : Rat) / sidesT ps)) := by
        rw [ways_srt, waysQ_node, List.map_flatMap]
        congr 1
        funext y
        exact ways_srt.symm
      rw [eW] at q
      rw [waysQ_node] at hlen hwi
      have hSq := iq_pos sp
      refine f_it walk_tup (fun i σ' H' => ∃ (kvs' : List (List Key × V)) (m' : Rat) (v3 v4 v5 : Option V), σ' = [some (.ref a), some (.ref mu), some (.ref dd), v3, v4, v5, some (.int (sidesT ps))] ∧ Bdt dd H H' ∧ H' dd = some (.dT kvs') ∧ Paired (RtN H') kvs' (addAll Z ((ps.take i).flatMap fun y => waysQ d (srtT d y.2) (r * ((y.1 : Rat) / sidesT ps)))) ∧ TabW B (addAll Z ((ps.take i).flatMap fun y => waysQ d (srtT d y.2) (r * ((y.1 : Rat) / sidesT ps)))) m' ∧ m' + r * ((sidesT (ps.drop i) : Rat) / sidesT ps) ≤ 1 ∧ (addAll Z ((ps.take i).flatMap fun y => waysQ d (srtT d y.2) (r * ((y.1 : Rat) / sidesT ps)))).length + ((ps.drop i).flatMap fun y => waysQ d y.2 (r * ((y.1 : Rat) / sidesT ps))).length ≤ 5000) ⟨kvs, m, _, _, _, rfl, .same s1, s1 _ _ hdd, ?_, ?_, ?_, ?_⟩ (fun _ _ _ _ ⟨_, _, _, _, _, _, b, _⟩ => b.seqT hdd hS) ?_ ?_
      · rw [List.take_zero]
        exact paired_imp2 (fun _ _ h => RtN.same h s1) hZ
      · rw [List.take_zero]
        exact hTW
      · rw [List.drop_zero, q_self hSq, Rat.mul_one]
        exact hm1
      · rw [List.take_zero, List.drop_zero]
        exact hlen
      · rintro i x σ' Hy H3 hi ⟨kvs', m', v3, v4, v5, rfl, b3, d3, p3, t3, g3, l3⟩ ⟨rfl, hx⟩
        obtain ⟨y, hy, q0, w, rfl, hq, hT⟩ := paired_nth hP hx
        have hym := List.mem_of_getElem? hy
        obtain ⟨⟨y0, y1⟩, oky⟩ := hps y hym
        obtain ⟨_, okt⟩ := hoks y hym
        have hdr : ps.drop i = y :: ps.drop (i + 1) := drop_at hy
        refine L_gTup (b3.seqT hdd hq) rfl ?_
        walk_at "sts"
        have bS : Bd 64 (sidesT ps) := by unfold Bd; omega
        have bY : Bd 64 y.1 := by unfold Bd; omega
        refine ⟨by omega, bS.mono (by decide), fun p5 H5 hp5 s5 e5 => ?_⟩
        have elow : low y.1 (sidesT ps) = qt ((y.1 : Rat) / sidesT ps) := low_qt sp rfl
        rw [elow] at e5
        have brat : BdQ 64 ((y.1 : Rat) / sidesT ps) := bdq_of (by omega) rfl bY bS
        walk_at "sts"
        refine ⟨_, (y.1 : Rat) / sidesT ps, s5.seqT (b3.seqT hdd hmu), .of e5, hbr.mono (by omega), brat.mono (by decide), fun p6 H6 hp6 s6 e6 => ?_⟩
        have s56 := s5.trans s6
        walk_at "sts"
        have sd : sidesT (ps.drop i) = y.1 + sidesT (ps.drop (i + 1)) := by unfold sidesT; rw [hdr, List.map_cons, List.sum_cons]
        have sdn : 0 ≤ sidesT (ps.drop (i + 1)) := by
          have : ∀ qs : List (Int × Tr), (∀ y ∈ qs, 0 ≤ y.1) → 0 ≤ sidesT qs := fun qs => by
            induction qs with
            | nil => intro _; decide
            | cons q qs ih =>
              intro h
              have h1 := ih fun y hy => h y (List.mem_cons_of_mem _ hy)
              have h2 := h q List.mem_cons_self
              unfold sidesT at *
              rw [List.map_cons, List.sum_cons]
              omega
          exact this _ fun z hz => (hps z (List.mem_of_mem_drop hz)).1.1
        have y0q : (0 : Rat) ≤ (y.1 : Rat) := Rat.intCast_nonneg.mpr y0
        have sdq : (0 : Rat) ≤ (sidesT (ps.drop (i + 1)) : Rat) := Rat.intCast_nonneg.mpr sdn
        have r20 : 0 ≤ r * ((y.1 : Rat) / sidesT ps) := Rat.mul_nonneg r0 (div_nn y0q hSq)
        have r30 : 0 ≤ r * ((sidesT (ps.drop (i + 1)) : Rat) / sidesT ps) := Rat.mul_nonneg r0 (div_nn sdq hSq)
        have esum : r * ((sidesT (ps.drop i) : Rat) / sidesT ps) = r * ((y.1 : Rat) / sidesT ps) + r * ((sidesT (ps.drop (i + 1)) : Rat) / sidesT ps) := by
          rw [sd, Rat.intCast_add]
          generalize (sidesT ps : Rat) = S at hSq ⊢
          grind
        rw [esum] at g3
        have l3' := l3
        rw [hdr, List.flatMap_cons, List.length_append] at l3'
        have tkn : (ps.take (i + 1)).flatMap (fun y => waysQ d (srtT d y.2) (r * ((y.1 : Rat) / sidesT ps))) = (ps.take i).flatMap (fun y => waysQ d (srtT d y.2) (r * ((y.1 : Rat) / sidesT ps))) ++ waysQ d (srtT d y.2) (r * ((y.1 : Rat) / sidesT ps)) := by
          rw [show ps.take (i + 1) = ps.take i ++ [y] by rw [List.take_succ, hy]; rfl, List.flatMap_append]
          simp
        have wy : ∀ w ∈ waysQ d y.2 (r * ((y.1 : Rat) / sidesT ps)), isI (w.2 * (B : Rat)) := fun w hw => hwi w (List.mem_flatMap.mpr ⟨y, hym, hw⟩)
        cases D with
        | zero => omega
        | succ D =>
        refine ⟨d, y.2, _, n + 64, B, m', kvs', _, by omega, treeV_same (b3.tree hdd hT) s56, okt, .of e6, bdq_mul hbr brat, by omega, r20, s56 _ _ d3, paired_imp2 (fun _ _ h => RtN.same h s56) p3, by omega, B0, B1, t3, by grind, wy, fun H7 kvs7 b7 d7 p7 => ?_⟩
        rw [← addAll_app, ← tkn] at p7
        have t7 := t3.addAll (W := waysQ d (srtT d y.2) (r * ((y.1 : Rat) / sidesT ps))) fun w hw => by
          rw [ways_srt] at hw
          obtain ⟨w0, hw0, rfl⟩ := List.mem_map.mp hw
          exact ⟨ways_nn oky r20 w0 hw0, wy w0 hw0⟩
        rw [← addAll_app, ← tkn, ways_srt, evW_keys, ways_s oky] at t7
        walk_at "sts"
        refine ⟨kvs7, _, _, _, _, rfl, b3.trans ((Bdt.same s56).trans b7), d7, p7, t7, by grind, ?_⟩
        have l8 : (addAll Z ((ps.take (i + 1)).flatMap (fun y => waysQ d (srtT d y.2) (r * ((y.1 : Rat) / sidesT ps))))).length ≤ (addAll Z ((ps.take i).flatMap (fun y => waysQ d (srtT d y.2) (r * ((y.1 : Rat) / sidesT ps))))).length + (waysQ d y.2 (r * ((y.1 : Rat) / sidesT ps))).length := by
          rw [tkn, addAll_app]
          refine Nat.le_trans (addAll_len _ _) ?_
          rw [ways_srt, List.length_map]
          exact Nat.le_refl _
        omega
      · rintro σ' H3 ⟨kvs', m', v3, v4, v5, rfl, b3, d3, p3, t3, g3, l3⟩
        rw [ul, List.take_length] at p3
        walk_at "sts"
        exact q H3 kvs' b3 d3 p3
theorem c__law_walk (T : Txt K mg base) : Cal P w K mg base 10 "_law_walk" (sp__law_walk K mg) := cr__law_walk T 7
/-! sizes of trees of OkT -/
theorem sides_bd {M : Int} : ∀ qs : List (Int × Tr), (∀ p ∈ qs, 1 ≤ p.1 ∧ p.1 ≤ M) → (∀ p ∈ qs, p.1 ≤ sidesT qs) ∧ (qs.length : Int) ≤ sidesT qs ∧ sidesT qs ≤ M * qs.length := fun qs => by
  induction qs with
  | nil => intro _; exact ⟨(fun _ z => nomatch z), by decide, by unfold sidesT; simp⟩
  | cons q qs ih =>
    intro h
    obtain ⟨a1, a2, a3⟩ := ih fun p hp => h p (List.mem_cons_of_mem _ hp)
    have h0 := h q List.mem_cons_self
    have e : sidesT (q :: qs) = q.1 + sidesT qs := by unfold sidesT; rw [List.map_cons, List.sum_cons]
    rw [e, List.length_cons]
    refine ⟨fun p hp => ?_, by omega, ?_⟩
    · rcases List.mem_cons.mp hp with rfl | hp
      · omega
      · have := a1 p hp
        omega
    · have : M * ((qs.length + 1 : Nat) : Int) = M * qs.length + M := by rw [show ((qs.length + 1 : Nat) : Int) = (qs.length : Int) + 1 from rfl, Int.mul_add, Int.mul_one]
      omega
/-- dice at most in a tree so deep -/
def nD : Nat → Nat
  | 0 => 0
  | d + 1 => 1 + 4 * nD d
theorem okT_srt : ∀ {d : Nat} {t : Tr}, OkT d t → OkT d (srtT d t)
  | 0, .leaf ks, h => ⟨by rw [srtI_len]; exact h.1, fun k hk => h.2 k ((List.mergeSort_perm ks _).mem_iff.mp hk)⟩
  | d + 1, .leaf ks, h => ⟨by rw [srtI_len]; exact h.1, fun k hk => h.2 k ((List.mergeSort_perm ks _).mem_iff.mp hk)⟩
  | 0, .node _, h => h.elim
  | d + 1, .node ps, h => by
    obtain ⟨h1, h2, h3⟩ := h
    refine ⟨fun z => h1 (List.map_eq_nil_iff.mp z), by rw [List.length_map]; exact h2, fun p hp => ?_⟩
    obtain ⟨y, hy, rfl⟩ := List.mem_map.mp hp
    exact ⟨(h3 y hy).1, okT_srt (h3 y hy).2⟩
theorem okT_len : ∀ {d : Nat} {t : Tr} {r : Rat}, OkT d t → (waysQ d t r).length ≤ 4 ^ d
  | d, .leaf ks, r, h => by rw [waysQ_leaf]; exact Nat.one_le_pow _ _ (by decide)
  | 0, .node _, r, h => h.elim
  | d + 1, .node ps, r, h => by
    obtain ⟨h1, h2, h3⟩ := h
    rw [waysQ_node, List.length_flatMap]
    have key : ∀ (S : Rat) (qs : List (Int × Tr)), (∀ p ∈ qs, OkT d p.2) → (qs.map fun y => (waysQ d y.2 (r * ((y.1 : Rat) / S))).length).sum ≤ 4 ^ d * qs.length := fun S qs => by
      induction qs with
      | nil => intro _; exact Nat.zero_le _
      | cons q qs ih =>
        intro h
        have a1 := ih fun p hp => h p (List.mem_cons_of_mem _ hp)
        have a2 := okT_len (r := r * ((q.1 : Rat) / S)) (h q List.mem_cons_self)
        rw [List.map_cons, List.sum_cons, List.length_cons, Nat.mul_add, Nat.mul_one]
        omega
    refine Nat.le_trans (key _ ps fun p hp => (h3 p hp).2) ?_
    rw [Nat.pow_succ]
    exact Nat.mul_le_mul_left _ h2
theorem okT_dn : ∀ {d : Nat} {t : Tr}, OkT d t → dnT d t ≤ 2 ^ (32 * nD d)
  | d, .leaf ks, h => by
    rw [dnT_leaf]
    have : (0 : Int) < 2 ^ (32 * nD d) := Int.pow_pos (by decide)
    omega
  | 0, .node _, h => h.elim
  | d + 1, .node ps, h => by
    have hW := okT_okW h
    obtain ⟨h1, h2, h3⟩ := h
    obtain ⟨w1, _, w3⟩ := hW
    obtain ⟨b1, b2, b3⟩ := sides_bd (M := 1000000000) ps fun p hp => (h3 p hp).1
    have key : ∀ (n : Nat) (qs : List (Int × Tr)), qs.length ≤ n → (∀ p ∈ qs, OkT d p.2 ∧ OkW d p.2) → 0 < (qs.map fun y => dnT d y.2).foldr (· * ·) 1 ∧ (qs.map fun y => dnT d y.2).foldr (· * ·) 1 ≤ 2 ^ (32 * nD d * n) := fun n => by
      induction n with
      | zero =>
        intro qs hl _
        have : qs = [] := List.length_eq_zero_iff.mp (by omega)
        subst this
        exact ⟨Int.one_pos, Int.le_refl _⟩
      | succ n ih =>
        intro qs hl h
        have hp2 : (0 : Int) < 2 ^ (32 * nD d * (n + 1)) := Int.pow_pos (by decide)
        cases qs with
        | nil => exact ⟨Int.one_pos, hp2⟩
        | cons q qs =>
          obtain ⟨a1, a2⟩ := ih qs (by rw [List.length_cons] at hl; omega) fun p hp => h p (List.mem_cons_of_mem _ hp)
          obtain ⟨c1, c2⟩ := h q List.mem_cons_self
          have c3 := okT_dn c1
          have c4 := dnT_pos c2
          show 0 < dnT d q.2 * (qs.map fun y => dnT d y.2).foldr (· * ·) 1 ∧ dnT d q.2 * (qs.map fun y => dnT d y.2).foldr (· * ·) 1 ≤ _
          refine ⟨Int.mul_pos c4 a1, ?_⟩
          rw [Nat.mul_add, Nat.mul_one, Nat.add_comm, Int.pow_add]
          exact Int.mul_le_mul c3 a2 (Int.le_of_lt a1) (Int.le_of_lt (Int.pow_pos (by decide)))
    obtain ⟨k1, k2⟩ := key 4 ps h2 fun p hp => ⟨(h3 p hp).2, (w3 p hp).2⟩
    show sidesT ps * (ps.map fun y => dnT d y.2).foldr (· * ·) 1 ≤ _
    have e : 32 * nD (d + 1) = 32 + 32 * nD d * 4 := by show 32 * (1 + 4 * nD d) = _; omega
    rw [e, Int.pow_add]
    exact Int.mul_le_mul (by omega) k2 (Int.le_of_lt k1) (Int.le_of_lt (Int.pow_pos (by decide)))
theorem dn_srt : ∀ {d : Nat} {t : Tr}, dnT d (srtT d t) = dnT d t
  | 0, .leaf _ => rfl
  | d + 1, .leaf _ => rfl
  | 0, .node _ => rfl
  | d + 1, .node ps => by
    show sidesT (ps.map fun y => (y.1, srtT d y.2)) * ((ps.map fun y => (y.1, srtT d y.2)).map fun y => dnT d y.2).foldr (· * ·) 1 = sidesT ps * (ps.map fun y => dnT d y.2).foldr (· * ·) 1
    have e : sidesT (ps.map fun y => (y.1, srtT d y.2)) = sidesT ps := by unfold sidesT; rw [List.map_map]; rfl
    rw [e, List.map_map]
    have : (fun y : Int × Tr => dnT d y.2) ∘ (fun y : Int × Tr => (y.1, srtT d y.2)) = fun y => dnT d y.2 := funext fun y => dn_srt
    rw [this]
/-- a way through a tree: its throws, what is kept -/
inductive Way : Tr → List Int → List Int → Prop where
  | leaf (ks : List Int) : Way (.leaf ks) [] ks
  | node {ps : List (Int × Tr)} {x : Int} {t : Tr} {ts ks : List Int} : 0 ≤ x → pickT ps x = some t → Way t ts ks → Way (.node ps) (x :: ts) ks
theorem pickT_map {f : Tr → Tr} : ∀ {ps : List (Int × Tr)} {x : Int}, pickT (ps.map fun y => (y.1, f y.2)) x = (pickT ps x).map f
  | [], _ => rfl
  | y :: ps, x => by
    rw [List.map_cons, pickT, pickT]
    split
    · rfl
    · exact pickT_map
theorem pickT_mem : ∀ {ps : List (Int × Tr)} {x : Int} {t : Tr}, pickT ps x = some t → ∃ y ∈ ps, y.2 = t
  | [], _, _, h => nomatch h
  | y :: ps, x, t, h => by
    rw [pickT] at h
    split at h
    · exact ⟨y, List.mem_cons_self, Option.some.inj h⟩
    · obtain ⟨z, hz, e⟩ := pickT_mem h
      exact ⟨z, List.mem_cons_of_mem _ hz, e⟩
theorem Way.run {t : Tr} {ts ks : List Int} (h : Way t ts ks) : ∀ i, runT t (ts.map V.int) i = .inl ks := by
  induction h with
  | leaf ks => intro i; rfl
  | @node ps x t ts ks h0 hp _ ih =>
    intro i
    have e : nxtT (.node ps) (.int x) = some t := (if_neg (by omega)).trans hp
    rw [List.map_cons, run_step e]
    exact ih _
theorem way_bind {gt : List Int → Tr} {A : List Int → Prop} {t : Tr} {ts ks us ms : List Int} (h : Way t ts ks) (w : Way (gt ks) us ms) : ∀ {d : Nat}, Tr.all A d t → Way (Tr.bind gt d t) (ts ++ us) ms := by
  induction h with
  | leaf ks =>
    intro d _
    cases d <;> exact w
  | @node ps x t ts ks h0 hp _ ih =>
    intro d ha
    cases d with
    | zero => exact ha.elim
    | succ d =>
      obtain ⟨y, hy, e⟩ := pickT_mem hp
      exact .node h0 (pickT_map.trans (by rw [hp]; rfl)) (ih w (e ▸ ha y hy))
theorem way_srt {t : Tr} {ts ks : List Int} (h : Way t ts ks) : ∀ {d : Nat}, OkT d t → Way (srtT d t) ts (srtI ks) := by
  induction h with
  | leaf ks =>
    intro d _
    rw [srtT_leaf]
    exact .leaf _
  | @node ps x t ts ks h0 hp _ ih =>
    intro d ha
    cases d with
    | zero => exact ha.elim
    | succ d =>
      obtain ⟨y, hy, e⟩ := pickT_mem hp
      exact .node h0 (pickT_map.trans (by rw [hp]; rfl)) (ih (e ▸ (ha.2.2 y hy).2))
theorem way_all {A : List Int → Prop} {t : Tr} {ts ks : List Int} (h : Way t ts ks) : ∀ {d : Nat}, Tr.all A d t → A ks := by
  induction h with
  | leaf ks =>
    intro d h
    cases d <;> exact h
  | @node ps x t ts ks h0 hp _ ih =>
    intro d ha
    cases d with
    | zero => exact ha.elim
    | succ d =>
      obtain ⟨y, hy, e⟩ := pickT_mem hp
      exact ih (e ▸ ha y hy)
theorem flat_congr {α β : Type} {f g : α → List β} : ∀ {l : List α}, (∀ a ∈ l, f a = g a) → l.flatMap f = l.flatMap g
  | [], _ => rfl
  | a :: l, h => by rw [List.flatMap_cons, List.flatMap_cons, h a List.mem_cons_self, flat_congr fun b hb => h b (List.mem_cons_of_mem _ hb)]
theorem sides_map {f : Int × Tr → Tr} (ps : List (Int × Tr)) : sidesT (ps.map fun y => (y.1, f y)) = sidesT ps := by
  unfold sidesT
  rw [List.map_map]
  rfl
theorem waysQ_le : ∀ {d : Nat} {t : Tr} {e : Nat} {r : Rat}, OkW d t → d ≤ e → waysQ e t r = waysQ d t r
  | d, .leaf ks, e, r, _, _ => by rw [waysQ_leaf, waysQ_leaf]
  | 0, .node _, _, _, h, _ => h.elim
  | d + 1, .node ps, 0, _, _, h => absurd h (Nat.not_succ_le_zero _)
  | d + 1, .node ps, e + 1, r, h, l => by
    rw [waysQ_node, waysQ_node]
    exact flat_congr fun y hy => waysQ_le (h.2.2 y hy).2 (Nat.le_of_succ_le_succ l)
theorem okW_le : ∀ {d : Nat} {t : Tr} {e : Nat}, OkW d t → d ≤ e → OkW e t
  | d, .leaf ks, e, _, _ => by cases e <;> exact trivial
  | 0, .node _, _, h, _ => h.elim
  | d + 1, .node ps, 0, _, h => absurd h (Nat.not_succ_le_zero _)
  | d + 1, .node ps, e + 1, h, l => ⟨h.1, h.2.1, fun y hy => ⟨(h.2.2 y hy).1, okW_le (h.2.2 y hy).2 (Nat.le_of_succ_le_succ l)⟩⟩
theorem okW_lf {ks : List Int} : OkW 0 (.leaf ks) := trivial
theorem bind_leaf {gt : List Int → Tr} {d : Nat} {ks : List Int} : Tr.bind gt d (.leaf ks) = gt ks := by cases d <;> rfl
theorem okW_bind {gt : List Int → Tr} {e : Nat} (hg : ∀ ks, OkW e (gt ks)) : ∀ {d : Nat} {t : Tr}, OkW d t → OkW (d + e) (Tr.bind gt d t)
  | d, .leaf ks, _ => by rw [bind_leaf]; exact okW_le (hg ks) (Nat.le_add_left ..)
  | 0, .node _, h => h.elim
  | d + 1, .node ps, h => by
    rw [show d + 1 + e = d + e + 1 by omega]
    refine ⟨by rw [sides_map]; exact h.1, by rw [sides_map]; exact h.2.1, fun y hy => ?_⟩
    obtain ⟨z, hz, rfl⟩ := List.mem_map.mp hy
    rw [sides_map]
    exact ⟨(h.2.2 z hz).1, okW_bind hg (h.2.2 z hz).2⟩
theorem ways_bind {gt : List Int → Tr} {e : Nat} (hg : ∀ ks, OkW e (gt ks)) : ∀ {d : Nat} {t : Tr} {r : Rat}, OkW d t → waysQ (d + e) (Tr.bind gt d t) r = (waysQ d t r).flatMap fun w => waysQ e (gt w.1) w.2
  | d, .leaf ks, r, _ => by
    rw [bind_leaf, waysQ_leaf, List.flatMap_cons, List.flatMap_nil, List.append_nil]
    exact waysQ_le (hg ks) (Nat.le_add_left ..)
  | 0, .node _, _, h => h.elim
  | d + 1, .node ps, r, h => by
    rw [show d + 1 + e = d + e + 1 by omega]
    show waysQ (d + e + 1) (.node (ps.map fun y => (y.1, Tr.bind gt d y.2))) r = _
    rw [waysQ_node, waysQ_node, sides_map, List.flatMap_map, List.flatMap_assoc]
    exact flat_congr fun y hy => ways_bind hg (h.2.2 y hy).2
theorem ways_scale : ∀ {d : Nat} {t : Tr} {a r : Rat}, waysQ d t (a * r) = (waysQ d t r).map fun w => (w.1, a * w.2)
  | d, .leaf ks, a, r => by rw [waysQ_leaf, waysQ_leaf]; rfl
  | 0, .node _, _, _ => rfl
  | d + 1, .node ps, a, r => by
    rw [waysQ_node, waysQ_node, List.map_flatMap]
    refine flat_congr fun y _ => ?_
    rw [Rat.mul_assoc]
    exact ways_scale
/-- what both keep, with the product of their shares -/
def prodW (A B : Wt) : Wt := A.flatMap fun a => B.map fun b => (srtI (a.1 ++ b.1), a.2 * b.2)
theorem ways_both {d e : Nat} {t u : Tr} (ht : OkW d t) (hu : OkW e u) : waysQ (d + e) (Tr.bind (fun xs => Tr.bind (fun ys => .leaf (srtI (xs ++ ys))) e u) d t) 1 = prodW (waysQ d t 1) (waysQ e u 1) := by
  have h0 : ∀ xs : List Int, OkW e (Tr.bind (fun ys => .leaf (srtI (xs ++ ys))) e u) := fun xs => okW_bind (e := 0) (fun _ => okW_lf) hu
  rw [ways_bind (gt := fun xs => Tr.bind (fun ys => .leaf (srtI (xs ++ ys))) e u) h0 ht]
  unfold prodW
  refine flat_congr fun a _ => ?_
  have e0 := ways_bind (gt := fun ys => .leaf (srtI (a.1 ++ ys))) (e := 0) (fun _ => okW_lf) (r := a.2) hu
  rw [show waysQ e _ a.2 = _ from e0]
  have := ways_scale (d := e) (t := u) (a := a.2) (r := 1)
  rw [Rat.mul_one] at this
  rw [this, List.flatMap_map]
  have key : ∀ l : Wt, (l.flatMap fun w => waysQ 0 (.leaf (srtI (a.1 ++ w.1))) (a.2 * w.2)) = l.map fun b => (srtI (a.1 ++ b.1), a.2 * b.2) := fun l => by
    induction l with
    | nil => rfl
    | cons x l ih => rw [List.flatMap_cons, ih, waysQ_leaf]; rfl
  exact key _
theorem rows_keys {W : Wt} {x : List Int} : x ∈ (rowsW W).map (·.1) ↔ x ∈ W.map (·.1) := by
  have key : ∀ (W acc : Wt), x ∈ (W.foldl (fun Z w => addW Z w.1 w.2) acc).map (·.1) ↔ x ∈ acc.map (·.1) ∨ x ∈ W.map (·.1) := fun W => by
    induction W with
    | nil => intro acc; simp
    | cons w W ih =>
      intro acc
      rw [List.foldl_cons, ih, keys_addW, List.map_cons, List.mem_cons]
      split
      · rename_i h
        constructor
        · rintro (z | z)
          · exact .inl z
          · exact .inr (.inr z)
        · rintro (z | z | z)
          · exact .inl z
          · exact .inl (by rw [z]; exact h)
          · exact .inr z
      · rw [List.mem_append, List.mem_singleton, or_assoc]
  have := key W []
  unfold rowsW
  rw [this]
  simp
theorem rows_nd (W : Wt) : ((rowsW W).map (·.1)).Nodup := by
  unfold rowsW
  have : ∀ (W acc : Wt), (acc.map (·.1)).Nodup → ((W.foldl (fun Z w => addW Z w.1 w.2) acc).map (·.1)).Nodup := fun W => by
    induction W with
    | nil => intro acc h; exact h
    | cons w W ih => intro acc h; exact ih _ (nd_addW h)
  exact this _ _ .nil
theorem lookW_ev : ∀ {Z : Wt} {k : List Int}, (Z.map (·.1)).Nodup → lookW Z k = evW (fun x => if x = k then 1 else 0) Z
  | [], _, _ => rfl
  | z :: Z, k, h => by
    rw [List.map_cons, List.nodup_cons] at h
    show (if z.1 = k then z.2 else lookW Z k) = z.2 * (if z.1 = k then 1 else 0) + evW (fun x => if x = k then 1 else 0) Z
    rw [← lookW_ev h.2]
    by_cases c : z.1 = k
    · rw [if_pos c, if_pos c]
      have : lookW Z k = 0 := by
        have key : ∀ {Z : Wt}, k ∉ Z.map (·.1) → lookW Z k = 0 := fun {Z} => by
          induction Z with
          | nil => intro _; rfl
          | cons z Z ih =>
            intro h
            rw [List.map_cons, List.mem_cons] at h
            unfold lookW
            rw [if_neg fun e => h (.inl e.symm)]
            exact ih fun e => h (.inr e)
        exact key (c ▸ h.1)
      rw [this]
      grind
    · rw [if_neg c, if_neg c]
      grind
theorem nd_map {Z : Wt} (h : (Z.map (·.1)).Nodup) : Z.Nodup := by
  have := List.pairwise_map.mp h
  exact this.imp fun h z => h (by rw [z])
theorem tab_perm {A B : Wt} (na : (A.map (·.1)).Nodup) (nb : (B.map (·.1)).Nodup) (hk : ∀ x, x ∈ A.map (·.1) ↔ x ∈ B.map (·.1)) (he : ∀ g, evW g A = evW g B) : A.Perm B := by
  have key : ∀ {A B : Wt}, (A.map (·.1)).Nodup → (B.map (·.1)).Nodup → (∀ x, x ∈ A.map (·.1) ↔ x ∈ B.map (·.1)) → (∀ g, evW g A = evW g B) → ∀ z, z ∈ A → z ∈ B := fun {A B} na nb hk he z hz => by
    obtain ⟨y, hy, e1, e2⟩ := lookW_at ((hk z.1).mp (List.mem_map_of_mem hz))
    have : z.2 = y.2 := by rw [e2, lookW_ev nb, ← he, ← lookW_ev na, look_mem na hz]
    rw [show z = y from Prod.ext e1.symm this]
    exact hy
  exact (List.perm_ext_iff_of_nodup (nd_map na) (nd_map nb)).mpr fun z => ⟨key na nb hk he z, key nb na (fun x => (hk x).symm) (fun g => (he g).symm) z⟩
theorem evW_mapS {g : List Int → Rat} {a : List Int × Rat} : ∀ {B : Wt}, evW g (B.map fun b => (srtI (a.1 ++ b.1), a.2 * b.2)) = a.2 * evW (fun b => g (srtI (a.1 ++ b))) B
  | [] => by show (0 : Rat) = a.2 * 0; grind
  | b :: B => by
    rw [List.map_cons]
    show a.2 * b.2 * g (srtI (a.1 ++ b.1)) + evW g (B.map fun b => (srtI (a.1 ++ b.1), a.2 * b.2)) = a.2 * (b.2 * g (srtI (a.1 ++ b.1)) + evW (fun b => g (srtI (a.1 ++ b))) B)
    rw [evW_mapS]
    grind
theorem evW_prod {g : List Int → Rat} {B : Wt} : ∀ {A : Wt}, evW g (prodW A B) = evW (fun a => evW (fun b => g (srtI (a ++ b))) B) A
  | [] => rfl
  | a :: A => by
    unfold prodW
    rw [List.flatMap_cons, evW_app]
    have := evW_prod (g := g) (B := B) (A := A)
    unfold prodW at this
    rw [this, evW_mapS]
    rfl
theorem prod_keys {A B : Wt} {x : List Int} : x ∈ (prodW A B).map (·.1) ↔ ∃ a ∈ A.map (·.1), ∃ b ∈ B.map (·.1), x = srtI (a ++ b) := by
  unfold prodW
  rw [List.map_flatMap]
  constructor
  · intro h
    obtain ⟨a, ha, h⟩ := List.mem_flatMap.mp h
    rw [List.map_map] at h
    obtain ⟨b, hb, e⟩ := List.mem_map.mp h
    exact ⟨a.1, List.mem_map_of_mem ha, b.1, List.mem_map_of_mem hb, e.symm⟩
  · rintro ⟨a, ha, b, hb, rfl⟩
    obtain ⟨a', ha', rfl⟩ := List.mem_map.mp ha
    obtain ⟨b', hb', rfl⟩ := List.mem_map.mp hb
    refine List.mem_flatMap.mpr ⟨a', ha', ?_⟩
    rw [List.map_map]
    exact List.mem_map.mpr ⟨b', hb', rfl⟩
/-- keys even, or odd, in order -/
def ParK (odd : Int) (k : List Int) : Prop := srtI k = k ∧ ∀ x ∈ k, x % 2 = odd
theorem srt_inj {a b a' b' : List Int} (ha : ParK 0 a) (ha' : ParK 0 a') (hb : ParK 1 b) (hb' : ParK 1 b') (h : srtI (a ++ b) = srtI (a' ++ b')) : a = a' ∧ b = b' := by
  have sp : ∀ c : List Int, (srtI c).Perm c := fun c => List.mergeSort_perm c _
  have pm : (a ++ b).Perm (a' ++ b') := (sp (a ++ b)).symm.trans (h ▸ sp (a' ++ b'))
  have fl : ∀ {odd : Int} {c : List Int}, (∀ x ∈ c, x % 2 = odd) → c.filter (fun x => decide (x % 2 = odd)) = c := fun h => List.filter_eq_self.mpr fun x hx => decide_eq_true (h x hx)
  have fn : ∀ {odd odd' : Int} {c : List Int}, odd ≠ odd' → (∀ x ∈ c, x % 2 = odd') → c.filter (fun x => decide (x % 2 = odd)) = [] := fun n h => List.filter_eq_nil_iff.mpr fun x hx => by
    rw [h x hx]
    exact fun z => n (of_decide_eq_true z).symm
  have p0 := pm.filter fun x => decide (x % 2 = 0)
  have p1 := pm.filter fun x => decide (x % 2 = 1)
  rw [List.filter_append, List.filter_append, fl ha.2, fl ha'.2, fn (by decide) hb.2, fn (by decide) hb'.2, List.append_nil, List.append_nil] at p0
  rw [List.filter_append, List.filter_append, fl hb.2, fl hb'.2, fn (by decide) ha.2, fn (by decide) ha'.2, List.nil_append, List.nil_append] at p1
  have so : ∀ c : List Int, (srtI c).Pairwise (· ≤ ·) := fun c => (List.pairwise_mergeSort (le := fun a b : Int => decide (a ≤ b)) (fun a b c h1 h2 => by simp only [decide_eq_true_eq] at *; omega) (fun a b => by simp only [Bool.or_eq_true, decide_eq_true_eq]; omega) c).imp fun h => by simpa using h
  have e1 := srtI_eq p0 (ha.1 ▸ so a)
  have e2 := srtI_eq p1 (hb.1 ▸ so b)
  rw [ha'.1] at e1
  rw [hb'.1] at e2
  exact ⟨e1, e2⟩
theorem prod_nd {A B : Wt} (na : (A.map (·.1)).Nodup) (nb : (B.map (·.1)).Nodup) (ha : ∀ a ∈ A, ParK 0 a.1) (hb : ∀ b ∈ B, ParK 1 b.1) : ((prodW A B).map (·.1)).Nodup := by
  unfold prodW
  rw [List.map_flatMap]
  refine List.pairwise_flatMap.mpr ⟨fun a h => ?_, ?_⟩
  · rw [List.map_map]
    refine List.pairwise_map.mpr ((List.pairwise_map.mp nb).imp_of_mem fun {x y} hx hy n e => n (srt_inj (ha a h) (ha a h) (hb x hx) (hb y hy) e).2)
  · refine (List.pairwise_map.mp na).imp_of_mem fun {x y} hx hy n => ?_
    intro u hu v hv e
    rw [List.map_map] at hu hv
    obtain ⟨b, hb1, rfl⟩ := List.mem_map.mp hu
    obtain ⟨c, hc1, rfl⟩ := List.mem_map.mp hv
    exact n (srt_inj (ha x hx) (ha y hy) (hb b hb1) (hb c hc1) e).1
theorem prod_perm {A B : Wt} (ha : ∀ a ∈ A, ParK 0 a.1) (hb : ∀ b ∈ B, ParK 1 b.1) : (prodW (rowsW A) (rowsW B)).Perm (rowsW (prodW A B)) := by
  have rk : ∀ {W : Wt} {P : List Int → Prop}, (∀ w ∈ W, P w.1) → ∀ w ∈ rowsW W, P w.1 := fun h w hw => by
    obtain ⟨z, hz, e⟩ := List.mem_map.mp (rows_keys.mp (List.mem_map_of_mem hw))
    rw [← e]
    exact h z hz
  refine tab_perm (prod_nd (rows_nd A) (rows_nd B) (rk ha) (rk hb)) (rows_nd _) (fun x => ?_) (fun g => ?_)
  · rw [rows_keys, prod_keys, prod_keys]
    constructor
    · rintro ⟨a, h1, b, h2, e⟩
      exact ⟨a, rows_keys.mp h1, b, rows_keys.mp h2, e⟩
    · rintro ⟨a, h1, b, h2, e⟩
      exact ⟨a, rows_keys.mpr h1, b, rows_keys.mpr h2, e⟩
  · rw [evW_rows, evW_prod, evW_prod, evW_rows]
    congr 1
    funext a
    rw [evW_rows]
theorem prod_app {A A' B : Wt} : prodW (A ++ A') B = prodW A B ++ prodW A' B := by unfold prodW; rw [List.flatMap_append]
theorem prod_one {a : List Int × Rat} {B : Wt} : prodW [a] B = B.map fun b => (srtI (a.1 ++ b.1), a.2 * b.2) := by unfold prodW; rw [List.flatMap_cons, List.flatMap_nil, List.append_nil]
/-- what comes next is not there yet -/
theorem prod_new {A B : Wt} {i j : Nat} {a b : List Int × Rat} (h : ((prodW A B).map (·.1)).Nodup) (hi : A[i]? = some a) (hj : B[j]? = some b) : srtI (a.1 ++ b.1) ∉ (prodW (A.take i) B ++ prodW [a] (B.take j)).map (·.1) := by
  have e : prodW A B = (prodW (A.take i) B ++ prodW [a] (B.take j)) ++ ((srtI (a.1 ++ b.1), a.2 * b.2) :: ((B.drop (j + 1)).map (fun b => (srtI (a.1 ++ b.1), a.2 * b.2)) ++ prodW (A.drop (i + 1)) B)) := by
    conv => lhs; rw [← List.take_append_drop i A, drop_at hi]
    rw [show a :: A.drop (i + 1) = [a] ++ A.drop (i + 1) from rfl, prod_app, prod_app, prod_one, prod_one]
    conv => lhs; rw [show B.map (fun b => (srtI (a.1 ++ b.1), a.2 * b.2)) = (B.take j ++ B.drop j).map (fun b => (srtI (a.1 ++ b.1), a.2 * b.2)) by rw [List.take_append_drop], drop_at hj, List.map_append, List.map_cons]
    simp only [List.append_assoc, List.cons_append]
  rw [e, List.map_append, List.nodup_append] at h
  intro z
  exact h.2.2 _ z _ (by rw [List.map_cons]; exact List.mem_cons_self) rfl
/-- halves, each once, in their order -/
def halves (ks : List Int) : List Int := ks.foldl (fun acc k => if k / 2 ∈ acc then acc else acc ++ [k / 2]) []
def dblT (odd : Int) : Nat → Tr → Tr
  | _, .leaf ks => .leaf ((halves ks).map fun h => 2 * h + odd)
  | 0, .node _ => .node []
  | d + 1, .node ps => .node (ps.map fun y => (y.1, dblT odd d y.2))
def hK (l : List Int) : List (Key × V) := l.map fun h => (Sum.inl h, V.bl true)
theorem halves_len (ks : List Int) : (halves ks).length ≤ ks.length := by
  have : ∀ (ks acc : List Int), (ks.foldl (fun acc k => if k / 2 ∈ acc then acc else acc ++ [k / 2]) acc).length ≤ acc.length + ks.length := fun ks => by
    induction ks with
    | nil => intro acc; exact Nat.le_refl _
    | cons k ks ih =>
      intro acc
      rw [List.foldl_cons, List.length_cons]
      refine Nat.le_trans (ih _) ?_
      split
      · omega
      · rw [List.length_append, List.length_singleton]; omega
  have h := this ks []
  rw [List.length_nil, Nat.zero_add] at h
  exact h
theorem same_mutD {H H' : Hp} {a : Addr} {o : HO} (e : Same H H') (h : H a = none) : Same H (upd H' a o) := same_mut e h
theorem halves_mem {ks : List Int} {h : Int} (hh : h ∈ halves ks) : ∃ k ∈ ks, h = k / 2 := by
  have : ∀ (ks acc : List Int), h ∈ ks.foldl (fun acc k => if k / 2 ∈ acc then acc else acc ++ [k / 2]) acc → h ∈ acc ∨ ∃ k ∈ ks, h = k / 2 := fun ks => by
    induction ks with
    | nil => intro acc z; exact .inl z
    | cons k ks ih =>
      intro acc z
      rcases ih _ z with z | ⟨k2, h1, h2⟩
      · dsimp only at z
        split at z
        · exact .inl z
        · rcases List.mem_append.mp z with z | z
          · exact .inl z
          · exact .inr ⟨k, List.mem_cons_self, List.mem_singleton.mp z⟩
      · exact .inr ⟨k2, List.mem_cons_of_mem _ h1, h2⟩
  rcases this ks [] hh with z | z
  · cases z
  · exact z
theorem halves_bd {ks : List Int} {h : Int} (hb : ∀ k ∈ ks, 0 ≤ k ∧ k < 100) (hh : h ∈ halves ks) : Bd 7 h := by
  obtain ⟨k, hk, rfl⟩ := halves_mem hh
  have := hb k hk
  unfold Bd
  omega
theorem hK_any {l : List Int} {h : Int} : ((hK l).any fun p => decide (p.1 = Sum.inl h)) = decide (h ∈ l) := by
  induction l with
  | nil => rfl
  | cons a l ih =>
    unfold hK at ih ⊢
    rw [List.map_cons, List.any_cons, ih]
    by_cases e : a = h
    · subst e
      simp
    · have e2 : ¬ (Sum.inl a : Key) = Sum.inl h := fun z => e (Sum.inl.inj z)
      simp [e2, e, Ne.symm e]
theorem hK_put {l : List Int} {h : Int} : putK (hK l) (Sum.inl h) (V.bl true) = hK (if h ∈ l then l else l ++ [h]) := by
  unfold putK
  rw [hK_any]
  by_cases c : h ∈ l
  · rw [if_pos (decide_eq_true c), if_pos c]
    unfold hK
    rw [List.map_map]
    refine List.map_congr_left fun a _ => ?_
    show (if (Sum.inl a : Key) = Sum.inl h then ((Sum.inl a : Key), V.bl true) else (Sum.inl a, V.bl true)) = _
    split <;> rfl
  · rw [if_neg (by rw [decide_eq_false c]; decide), if_neg c]
    unfold hK
    rw [List.map_append]
    rfl
/-- a comprehension of new things that may not hold its own list -/
theorem lc_sD {α : Type} (F : Addr → Hp → V → α → Prop) (st : ∀ D H H' v a, Same H H' → F D H v a → F D H' v a) {σ : L2.St} {H : Hp} (up : ∀ H1 D us us' v a, H1 D = some (.lst us) → F D H1 v a → F D (upd H1 D (.lst us')) v a)
     {g : TG} {tt : TT} {te : TE} {J : It} {n : Nat} {G : Hp → Prop} {Y : Nat → Hp → V → Hp → Prop} (w : L2.Walk J n G Y) {vs : List Nat} {Qd : Addr → Hp → Prop} (l : List α) (hl : l.length = n) (hn : n ≤ 1000000) (hG : ∀ H', Same H H' → G H')
    (hs : ∀ D us i x H2 H' (R : V → Hp → Prop) (R' : Hp → Prop), H D = none → H2 D = some (.lst us) → i < n → Same H H2 → Y i H2 x H' → (∀ v p H4, l[i]? = some p → Same H2 H4 → F D H4 v p → R v H4) →
      g x (wipe σ vs) H' fun σ2 H2 => wipe σ2 vs = wipe σ vs ∧ tt σ2 H2 fun b H3 => if b = true then te σ2 H3 R else R' H3)
    (q : ∀ p H' vs, H p = none → Same H H' → H' p = some (.lst vs) → Paired (F p H') vs l → Qd p H') :
    ∀ D, H D = none → ∃ W : Nat → Nat → Hp → Prop, (∃ m, W 0 m (upd H D (.lst []))) ∧ ∀ i m H, W i m H →
      (J.stop i H ∧ Qd D H) ∨ (J.go i H ∧ ∃ Nx : Hp → Prop, (∀ H', Nx H' → ∃ m', m' < m ∧ W (i + 1) m' H') ∧ ∀ x H', J.yld i H x H' → g x (wipe σ vs) H' fun σ2 H2 => wipe σ2 vs = wipe σ vs ∧ tt σ2 H2 fun b H3 =>
        if b = true then te σ2 H3 fun y H4 => ∃ acc, H4 D = some (.lst acc) ∧ acc.length < sizeLine ∧ Nx (upd H4 D (.lst (acc ++ [y]))) else Nx H3) := by
  intro D hD
  refine lc_it w (fun i H2 => Same H H2 ∧ ∃ us, H2 D = some (.lst us) ∧ Paired (F D H2) us (l.take i)) ⟨same_new hD, [], upd_same, .nil⟩ (fun i H2 _ p => hG H2 p.1) ?_ (fun H2 ⟨p1, us, p2, p3⟩ => q D H2 us hD p1 p2 (by rwa [List.take_of_length_le (by omega)] at p3))
  rintro i x H2 H' hi ⟨p1, us, p2, p3⟩ y
  refine hs D us i x H2 H' _ _ hD p2 hi p1 y (fun v p H4 e s et => ?_)
  have e4 := s _ _ p2
  have ln := Paired.length p3
  rw [List.length_take] at ln
  refine ⟨us, e4, sz_lt (by omega), same_mut (p1.trans s) hD, _, upd_same, ?_⟩
  rw [List.take_succ, e]
  exact paired_app (paired_imp2 (fun v p h => up _ _ _ _ _ _ e4 (st _ _ _ _ _ s h)) p3) (.cons (up _ _ _ _ _ _ e4 et) .nil)
/-- a part that is made: it does not hold the list D -/
def PartD (K : PySem.W.Frag) (d : Nat) (H0 : Hp) (D : Addr) (H : Hp) (u : V) (y : Int × Tr) : Prop := ∃ q w, u = .ref q ∧ H0 q = none ∧ H q = some (.tup [.int y.1, w]) ∧ TreeV K (rs (fun b => H0 b = none ∧ b ≠ D) H) d y.2 w
def spq__law_doubled (D : Nat) (K : PySem.W.Frag) (mg : Str → Option Value) : Sp := fun vs H Q _ => match vs with | [v, .int odd] => ∃ (d : Nat) (t : Tr), d ≤ D ∧ (odd = 0 ∨ odd = 1) ∧ TreeV K H d t v ∧ OkT d t ∧ ∀ w H', Same H H' → TreeV K (rs (fun b => H b = none) H') d (dblT odd d t) w → Q w H' | _ => False
def spr__law_doubled : Nat → PySem.W.Frag → (Str → Option Value) → Sp
  | 0, _, _ => fun _ _ _ _ => False
  | D + 1, K, mg => spq__law_doubled D K mg
abbrev sp__law_doubled (K : PySem.W.Frag) (mg : Str → Option Value) : Sp := spr__law_doubled 5 K mg
theorem cr__law_doubled (T : Txt K mg base) : ∀ D : Nat, Cal P w K mg base (0 + D) "_law_doubled" (spr__law_doubled D K mg)
  | 0 => T.d__law_doubled.calF
  | D + 1 => by
    have ih := cr__law_doubled T D
    refine T.d__law_doubled.cal (k := 0 + D) sc__law_doubled (by intro vs H Q E h; replace h : spq__law_doubled D K mg vs H Q E := h; unfold spq__law_doubled at h; split at h <;> first | rfl | exact h.elim) fun f cdv A outer s H vs Q E hr h => ?_
    refine ⟨_, (pss_cons (ps_if (pt_val (pe_callB call_isi (by rfl) T.n_isinstance (by decide +kernel) (pa_cons (pv 0) (pa_cons (pe_ty "list" (by rfl) T.n_list (by decide +kernel)) pa_nil))))
    (pss_cons (ps_set (i := 2) sc__law_doubled.nd rfl (.inl rfl) pe_dnewK)
    (pss_cons (ps_for PassesOwn.never rfl (pi_list (pv 0)) (pg_name (i := 3) sc__law_doubled.nd rfl (.inl rfl))
    (pss_one (ps_dput (hu_of hr) (pv 2) (pe_op op_fdivW (pv 3) pe_int) pe_bl rfl)))
    (pss_one (ps_lock (ps_ret (pe_lc (own := [("_law_half", 4)]) (g := (gName 4)) (tt := tYes) (te := (tOp (aAdd K) (tOp aMul (tC (.int 2)) (tVar 4)) (tVar 1))) rfl sc__law_doubled.nd (pi_keys (pv 2)) (blkOk_by (N := ["_law_tree_here", "_law_odd", "_law_halves", "_law_place", "_law_half", "_law_many", "_law_part"]) (sc := defScope s__law_doubled) (by decide +kernel)) (fun _ _ _ _ _ => by exact (pg_name (i := 4) sc__law_doubled.nd rfl (.inl rfl))) (fun _ _ _ _ _ => pts_nil) (fun _ _ _ _ _ => by exact (pe_op op_addA (pe_op op_mulA pe_int (pv 4)) (pv 1)))))))))
    pss_nil)
    (pss_one (ps_ret (pe_callTy call_tuple1A (by rfl) T.n_tuple (by decide +kernel) (pa_cons (pe_lc (own := [("_law_many", 5), ("_law_part", 6)]) (g := (gTup K 2 (gCons (gName 5) (gCons (gName 6) gNil)))) (tt := tYes) (te := (tTup (tCons (tVar 5) (tCons (tCall (spr__law_doubled D K mg) [] E0 (tCons (tVar 6) (tCons (tVar 1) tNil))) tNil)))) rfl sc__law_doubled.nd (pi_tup (pv 0)) (blkOk_by (N := ["_law_tree_here", "_law_odd", "_law_halves", "_law_place", "_law_half", "_law_many", "_law_part"]) (sc := defScope s__law_doubled) (by decide +kernel)) (fun _ _ _ _ _ => by exact (pg_tup rfl (pgs_cons (pg_name (i := 5) sc__law_doubled.nd rfl (.inl rfl)) (pgs_cons (pg_name (i := 6) sc__law_doubled.nd rfl (.inl rfl)) pgs_nil)))) (fun _ _ _ _ _ => pts_nil) (fun _ _ _ _ _ => by exact (pe_tup (pa_cons (pv 5) (pa_cons (pe_c ih hr (by omega) (by rfl) (pa_cons (pv 6) (pa_cons (pv 1) pa_nil))) pa_nil))))) pa_nil))))), ?_⟩
    try simp only [cxOf_K, cxOf_K', cxOf_mg, cxOf_mg']
    replace h : spq__law_doubled D K mg vs H Q E := h
    unfold spq__law_doubled at h
    split at h
    case h_2 => exact h.elim
    rename_i v odd
    rw [show L2.start ["_law_tree_here", "_law_odd", "_law_halves", "_law_place", "_law_half", "_law_many", "_law_part"] [v, V.int odd] = [some (v), some (V.int odd), none, none, none, none, none] from rfl]
    obtain ⟨d, t, hd, ho, hv, hok, q⟩ := h
    match d, t, hv, hok, q, hd with
    | d, .leaf ks, hv, hok, q, hd =>
      obtain ⟨a, rfl, hS⟩ := treeV_leaf hv
      walk_at "sts"
      refine L_isi (tyx_L hS) (b := true) (by decide +kernel) ?_
      walk_at "sts"
      walk_at "nwp"
      rename_i dd hdd H1 s1 e1
      walk_at "sts"
      have hk8 := (okT_leaf hok).1
      refine L_rl (s1.seq hS) ?_
      refine f_it walk_list (fun i σ' H' => ∃ v3 : Option V, σ' = [some (.ref a), some (.int odd), some (.ref dd), v3, none, none, none] ∧ Same H H' ∧ H' dd = some (.dK (hK (halves (ks.take i))))) ⟨_, rfl, s1, e1⟩ (fun _ _ _ _ ⟨_, _, s, _⟩ => s.seq hS) ?_ ?_
      · rintro i x σ' Hy H2 hi ⟨v3, rfl, s2, e2⟩ ⟨rfl, hx⟩
        rw [List.getElem?_map] at hx
        obtain ⟨k, hk, rfl⟩ := Option.map_eq_some_iff.mp hx
        walk_at "sts"
        refine L_I (show CDivW _ 2 from cdiv_lit (by decide)) ?_
        refine L_dputv (k := Sum.inl (k / 2)) rfl e2 (by unfold hK; rw [List.length_map]; have := halves_len (ks.take i); rw [List.length_take] at this; omega) ?_
        refine ⟨_, rfl, same_mutD s2 hdd, ?_⟩
        rw [upd_same, hK_put, show ks.take (i + 1) = ks.take i ++ [k] by rw [List.take_succ, hk]; rfl]
        unfold halves
        rw [List.foldl_append]
        rfl
      · rintro σ' H2 ⟨v3, rfl, s2, e2⟩
        walk_at "sts"
        refine ⟨dd, _, e2, trivial, fun od => ?_⟩
        walk_at "sts"
        refine L_rk upd_same ?_
        rw [List.length_map, List.take_length] at e2 ⊢
        have hl := halves_len ks
        have hkl : (hK (halves ks)).length = (halves ks).length := by unfold hK; rw [List.length_map]
        refine lc_fm walk_keys (fun i => (halves ks)[i]?.map fun h => V.int (2 * h + odd)) (by rw [hkl]; omega) (fun H' e => e _ _ upd_same) ?_ ?_
        · rintro i x1 H3 H3' R R' hi s3 ⟨rfl, k, v, hkv, rfl⟩ r1 r2
          unfold hK at hkv
          rw [List.getElem?_map] at hkv
          obtain ⟨h, hh, e⟩ := Option.map_eq_some_iff.mp hkv
          cases e
          walk_at "sts"
          refine ⟨rfl, ?_⟩
          walk_at "sts"
          refine L_mulI ((bd_lit (i := 2) (by decide)).cmul (halves_bd (okT_leaf hok).2 (List.mem_of_getElem? hh))) ?_
          walk_at "sts"
          exact r1 _ _ (by rw [hh]; rfl) (.refl _)
        · intro pq H3 hpq s3 e3
          walk_at "sts"
          have s4 : Same H2 (upd H3 dd (.dK (hK (halves ks)))) := same_lock e2 s3
          refine ⟨s3 _ _ upd_same, ?_⟩
          rw [hkl, fm_get (fun h : Int => V.int (2 * h + odd)) (halves ks)] at e3
          have np : pq ≠ dd := fun z => by rw [z, upd_same] at hpq; cases hpq
          have hn : H pq = none := s2.free (by rw [upd_ne np] at hpq; exact hpq)
          refine q _ _ (s2.trans s4) ?_
          have : TreeV K (rs (fun b => H b = none) (upd H3 dd (.dK (hK (halves ks))))) d (.leaf ((halves ks).map fun h => 2 * h + odd)) (.ref pq) := treeV_mk (.of (rs_at hn (by rw [upd_ne np, e3, List.map_map]; rfl)))
          cases d <;> exact this
    | 0, .node ps, hv, hok, q, hd => exact hv.elim
    | d + 1, .node ps, hv, hok, q, hd =>
      obtain ⟨a, us, rfl, hS, hP⟩ := hv
      walk_at "sts"
      refine L_isi (tyx_T hS) (b := false) (by decide +kernel) ?_
      walk_at "sts"
      have ul := Paired.length hP
      obtain ⟨hne, hl4, hoks⟩ := hok
      refine ⟨a, rfl, ⟨_, hS⟩, ?_⟩
      refine lc_sD (fun D H1 u (y : Int × Tr) => PartD K d H D H1 u (y.1, dblT odd d y.2)) (fun D H0 H' u y s ⟨q, w, e1, n, h1, h2⟩ => ⟨q, w, e1, n, s _ _ h1, treeV_same h2 (rs_same fun a o n h => ⟨n, s _ _ h⟩)⟩) (fun H1 D us us' u y e ⟨q, w, e1, n, h1, h2⟩ => ⟨q, w, e1, n, by rw [upd_ne fun z => by rw [z, e] at h1; cases h1]; exact h1, treeV_same h2 (rs_same fun a o n h => ⟨n, by rw [upd_ne n.2]; exact h⟩)⟩) walk_tup ps (by omega) (by omega) (fun H' s => s.seqT hS) ?_ ?_
      · rintro dl us2 i x1 Ha Hb R R' hD eD hi s ⟨rfl, hx1⟩ q1
        obtain ⟨y, hy, q0, w, rfl, hq, hT⟩ := paired_nth hP hx1
        refine L_gTup (s.seqT hq) rfl ?_
        walk_at "sts"
        refine ⟨rfl, ?_⟩
        walk_at "sts"
        cases D with
        | zero => omega
        | succ D =>
        refine ⟨d, y.2, by omega, ho, treeV_same hT s, (hoks y (List.mem_of_getElem? hy)).2, fun w2 H5 s5 hw2 => ?_⟩
        walk_at "sts"
        walk_at "nw"
        rename_i p5 hp5 H6 s6 e6
        have hl5 := s5 _ _ eD
        refine q1 _ y _ hy (s5.trans s6) ⟨p5, w2, rfl, s.free (s5.free hp5), e6, treeV_same hw2 (rs_same fun a o n h => ⟨⟨s.free n, fun z => by rw [z, eD] at n; cases n⟩, s6 _ _ h⟩)⟩
      · intro p1 H1 vs hp1 s1 e1 hV
        walk_at "sts"
        refine L_tuple1 (.of e1) fun l hl => ?_
        walk_at "sts"
        refine q _ _ (s1.trans (same_new hl)) ⟨l, vs, rfl, .of (rs_at (s1.free hl) upd_same), ?_⟩
        refine paired_mapR (fun y : Int × Tr => (y.1, dblT odd d y.2)) (paired_imp2 (fun u y ⟨q0, w, e0, n, h1, h2⟩ => ⟨q0, w, e0, .of (rs_at n (same_new hl _ _ h1)), treeV_same h2 (rs_same fun a o n h => ⟨n.1, same_new hl _ _ h⟩)⟩) hV)
theorem c__law_doubled (T : Txt K mg base) : Cal P w K mg base 5 "_law_doubled" (sp__law_doubled K mg) := cr__law_doubled T 5
theorem sides_bd4 : ∀ qs : List (Int × Tr), (∀ p ∈ qs, 1 ≤ p.1 ∧ p.1 ≤ 1000000000) → 0 ≤ sidesT qs ∧ sidesT qs ≤ 1000000000 * (qs.length : Int) := fun qs => by
  induction qs with
  | nil => intro _; exact ⟨by decide, by decide⟩
  | cons q qs ih =>
    intro h
    obtain ⟨a2, a3⟩ := ih fun p hp => h p (List.mem_cons_of_mem _ hp)
    have h0 := h q List.mem_cons_self
    have e : sidesT (q :: qs) = q.1 + sidesT qs := by unfold sidesT; rw [List.map_cons, List.sum_cons]
    rw [e, List.length_cons]
    exact ⟨by omega, by omega⟩
def sp__law_way (K : PySem.W.Frag) (mg : Str → Option Value) : Sp := fun vs H Q _ => match vs with | [v, .ref p] => ∃ (n : Int) (d : Nat) (t : Tr), H p = some (.lst [.int n]) ∧ TreeV K (rs (fun b => b ≠ p) H) d t v ∧ OkT d t ∧ d ≤ 10 ∧ ∀ (ts ks : List Int) (n' : Int) a b c H', Way t ts ks → ts.length ≤ d → H b = none → But p H H' → H' p = some (.lst [.int n']) → H' a = some (.tup [.ref b, .ref c]) → H' b = some (.lst (ts.map V.int)) → H' c = some (.tup ((srtI ks).map V.int)) → Q (.ref a) H' | _ => False
theorem q__law_way {H : Hp} {Q : VK} {E : XK} {v : V} {p : Addr} (q : ∃ (n : Int) (d : Nat) (t : Tr), H p = some (.lst [.int n]) ∧ TreeV K (rs (fun b => b ≠ p) H) d t v ∧ OkT d t ∧ d ≤ 10 ∧ ∀ (ts ks : List Int) (n' : Int) a b c H', Way t ts ks → ts.length ≤ d → H b = none → But p H H' → H' p = some (.lst [.int n']) → H' a = some (.tup [.ref b, .ref c]) → H' b = some (.lst (ts.map V.int)) → H' c = some (.tup ((srtI ks).map V.int)) → Q (.ref a) H') : sp__law_way K mg [v, .ref p] H Q E := q
local macro_rules | `(tactic| walk_at "op") => `(tactic| with_reducible refine q__law_way ?_)
theorem c__law_way (T : Txt K mg base) : Cal P w K mg base 2 "_law_way" (sp__law_way K mg) := by
  refine T.d__law_way.cal (k := 1) sc__law_way (by intro vs H Q E h; unfold sp__law_way at h; split at h <;> first | rfl | exact h.elim) fun f cdv A outer s H vs Q E hr h => ?_
  refine ⟨_, (pss_cons (ps_set (i := 2) sc__law_way.nd rfl (.inl rfl) (pe_lst pa_nil))
    (pss_cons (ps_while PassesOwn.never (pt_not (pt_val (pe_callB call_isi (by rfl) T.n_isinstance (by decide +kernel) (pa_cons (pv 0) (pa_cons (pe_ty "list" (by rfl) T.n_list (by decide +kernel)) pa_nil)))))
    (pss_cons (ps_set (i := 5) sc__law_way.nd rfl (.inl rfl) (pe_c (c__law_take T) hr (by decide) (by rfl) (pa_cons (pv 1) (pa_cons (pe_callB (cr_sum rfl) (by rfl) T.n_sum (by decide +kernel) (pa_cons (pe_lc (own := [("_law_many", 3), ("_law_part", 4)]) (g := (gTup K 2 (gCons (gName 3) (gCons (gName 4) gNil)))) (tt := tYes) (te := (tVar 3)) rfl sc__law_way.nd (pi_tup (pv 0)) (blkOk_by (N := ["_law_tree_here", "_law_state", "_law_throws", "_law_many", "_law_part", "_law_throw"]) (sc := defScope s__law_way) (by decide +kernel)) (fun _ _ _ _ _ => by exact (pg_tup rfl (pgs_cons (pg_name (i := 3) sc__law_way.nd rfl (.inl rfl)) (pgs_cons (pg_name (i := 4) sc__law_way.nd rfl (.inl rfl)) pgs_nil)))) (fun _ _ _ _ _ => pts_nil) (fun _ _ _ _ _ => by exact (pv 3))) pa_nil)) pa_nil))))
    (pss_cons (ps_expr (pe_bm PySem.F.plainAttrs_list PySem.F.slot_list_append PySem.F.type_list_append mt_append (pv 2) (pa_cons (pv 5) pa_nil)))
    (pss_one (ps_for PassesOwn.never rfl (pi_tup (pv 0)) (pg_tup rfl (pgs_cons (pg_name (i := 3) sc__law_way.nd rfl (.inl rfl)) (pgs_cons (pg_name (i := 4) sc__law_way.nd rfl (.inl rfl)) pgs_nil)))
    (pss_cons (ps_if (pt_cmpR op_ltA (pv 5) (pv 3) (nomark _))
    (pss_cons (ps_set (i := 0) sc__law_way.nd rfl (.inl rfl) (pv 4))
    (pss_one ps_break))
    pss_nil)
    (pss_one (ps_set (i := 5) sc__law_way.nd rfl (.inl rfl) (pe_op op_sub (pv 5) (pv 3))))))))))
    (pss_one (ps_ret (pe_tup (pa_cons (pv 2) (pa_cons (pe_callTy call_tuple1A (by rfl) T.n_tuple (by decide +kernel) (pa_cons (pe_callB cr_sortedQ (by rfl) T.n_sorted (by decide +kernel) (pa_cons (pv 0) pa_nil)) pa_nil)) pa_nil))))))), ?_⟩
  try simp only [cxOf_K, cxOf_K', cxOf_mg, cxOf_mg']
  unfold sp__law_way at h
  split at h
  case h_2 => exact h.elim
  rename_i v p
  rw [show L2.start ["_law_tree_here", "_law_state", "_law_throws", "_law_many", "_law_part", "_law_throw"] [v, V.ref p] = [some (v), some (V.ref p), none, none, none, none] from rfl]
  obtain ⟨n, d, t, hp, hv, hok, hd, q⟩ := h
  walk_at "sts"
  walk_at "nw"
  rename_i L hL H1 s1 e1
  walk_at "sts"
  have nL : L ≠ p := fun z => by rw [z, hp] at hL; cases hL
  have up : ∀ {H' : Hp} {d' : Nat} {t' : Tr} {w : V}, But p H H' → TreeV K (rs (fun b => b ≠ p) H) d' t' w → TreeV K H' d' t' w := fun b h => treeV_same h fun a o h => let ⟨n, h⟩ := rs_of h; b a o h n
  refine L_while (fun m σ' H' => ∃ (w : V) (d' : Nat) (t' : Tr) (ts : List Int) (n' : Int) (v3 v4 v5 : Option V), σ' = [some w, some (.ref p), some (.ref L), v3, v4, v5] ∧ d' = m ∧ d' + ts.length ≤ d ∧ But p H H' ∧ H' p = some (.lst [.int n']) ∧ H' L = some (.lst (ts.map V.int)) ∧ TreeV K (rs (fun b => b ≠ p) H) d' t' w ∧ OkT d' t' ∧ ∀ us ks, Way t' us ks → Way t (ts ++ us) ks) ⟨d, v, d, t, [], n, _, _, _, rfl, rfl, by rw [List.length_nil]; omega, .same s1, s1 _ _ hp, e1, hv, hok, fun us ks h => h⟩ ?_
  rintro m σ' H2 ⟨w, d', t', ts, n', v3, v4, v5, rfl, rfl, hl, b2, p2, L2', hw, hok2, hway⟩
  have hw2 := up b2 hw
  match d', t', hw, hw2, hok2, hway, hl with
  | d', .leaf ks, hw, hw2, hok2, hway, hl =>
    obtain ⟨a, rfl, hS⟩ := treeV_leaf hw2
    walk_at "sts"
    refine L_isi (tyx_L hS) (b := true) (by decide +kernel) ?_
    walk_at "sts"
    refine ⟨a, ks, rfl, .inl hS, fun ns p3 hp3 hs hn1 => ?_⟩
    cases srtI_eq hp3 hs
    walk_at "sts"
    refine L_tuple1 (.of upd_same) fun l hl2 => ?_
    have s3 := same_new (o := .lst ((srtI ks).map V.int)) hn1
    have s4 := s3.trans (same_new (o := .tup ((srtI ks).map V.int)) hl2)
    have e4 : upd (upd H2 p3 (.lst ((srtI ks).map V.int))) l (.tup ((srtI ks).map V.int)) l = some (.tup ((srtI ks).map V.int)) := upd_same
    generalize upd (upd H2 p3 (.lst ((srtI ks).map V.int))) l (.tup ((srtI ks).map V.int)) = H4 at s4 e4 ⊢
    walk_at "sts"
    walk_at "nw"
    rename_i a5 ha5 H5 s5 e5
    have s25 := s4.trans s5
    have hh := hway [] ks (.leaf ks)
    rw [List.append_nil] at hh
    exact q ts ks n' a5 L l H5 hh (by omega) hL (b2.trans (.same s25)) (s25 _ _ p2) e5 (s25 _ _ L2') (s5 _ _ e4)
  | 0, .node ps, hw, hw2, hok2, hway, hl => exact hw.elim
  | d' + 1, .node ps, hw, hw2, hok2, hway, hl =>
    obtain ⟨a, us, rfl, hS', hP⟩ := hw
    have sm2 : ∀ {H' : Hp}, But p H H' → Same (rs (fun b => b ≠ p) H) H' := fun b a o h => let ⟨n, h⟩ := rs_of h; b a o h n
    have hS := (sm2 b2).seqT hS'
    have hW := okT_okW hok2
    obtain ⟨hne, hl4, hoks⟩ := hok2
    obtain ⟨sp, sb, hps⟩ := hW
    have ul := Paired.length hP
    walk_at "sts"
    refine L_isi (tyx_T hS) (b := false) (by decide +kernel) ?_
    walk_at "sts"
    refine L_N ?_
    walk_at "sts"
    refine ⟨a, rfl, ⟨_, hS⟩, ?_⟩
    refine lc_fm walk_tup (fun i => ps[i]?.map fun y => V.int y.1) (by omega) (fun H' e => e.seqT hS) ?_ ?_
    · rintro j x1 Ha Hb R R' hj sm ⟨rfl, hx1⟩ q1 q2
      obtain ⟨y, hy, q0, w, rfl, hq, hT⟩ := paired_nth hP hx1
      refine L_gTup (sm.seqT ((sm2 b2).seqT hq)) rfl ?_
      walk_at "sts"
      refine ⟨rfl, ?_⟩
      walk_at "sts"
      exact q1 _ _ (by rw [hy]; rfl) (.refl _)
    intro p1 H3 hp1 s3 e3
    rw [ul, fm_get (fun y : Int × Tr => V.int y.1) ps] at e3
    have e3' : H3 p1 = some (.lst ((ps.map (·.1)).map V.int)) := by rw [e3, List.map_map]; rfl
    walk_at "sts"
    refine L_sum (.of e3') ?_
    rw [show (ps.map (·.1)).sum = sidesT ps from rfl]
    have sb2 := (sides_bd4 ps fun y hy => (hoks y hy).1)
    walk_at "sts"
    refine ⟨n', s3 _ _ p2, by omega, by omega, fun x n2 x0 x1 => ?_⟩
    have b4 : But p H2 (upd H3 p (.lst [.int n2])) := (But.same s3).upd
    have p4 : upd H3 p (.lst [.int n2]) p = some (.lst [.int n2]) := upd_same
    generalize upd H3 p (.lst [.int n2]) = H4 at b4 p4 ⊢
    have L4 := b4 _ _ L2' nL
    walk_at "sts"
    refine L_tyL (.of L4) ?_
    walk_at "sts"
    refine L_app L4 (sz_lt (by rw [List.length_map]; omega)) ?_
    have b5 : But p H (upd H4 L (.lst (ts.map V.int ++ [.int x]))) := fun b o hb ne => by
      rw [upd_ne fun z => by rw [z, hL] at hb; cases hb]
      exact b4 _ _ (b2 _ _ hb ne) ne
    have p5 : upd H4 L (.lst (ts.map V.int ++ [.int x])) p = some (.lst [.int n2]) := by rw [upd_ne nL.symm]; exact p4
    have L5 : upd H4 L (.lst (ts.map V.int ++ [.int x])) L = some (.lst ((ts ++ [x]).map V.int)) := by rw [List.map_append]; exact upd_same
    generalize upd H4 L (.lst (ts.map V.int ++ [.int x])) = H5 at b5 p5 L5 ⊢
    have hS5 := (sm2 b5).seqT hS'
    walk_at "sts"
    refine ⟨a, rfl, ⟨_, hS5⟩, ?_⟩
    refine f_it walk_tup (fun i σ' H' => ∃ (x' : Int) (v3 v4 : Option V), σ' = [some (.ref a), some (.ref p), some (.ref L), v3, v4, some (.int x')] ∧ H' = H5 ∧ 0 ≤ x' ∧ x' < sidesT (ps.drop i) ∧ pickT ps x = pickT (ps.drop i) x') ⟨x, _, _, rfl, rfl, x0, by rw [List.drop_zero]; exact x1, by rw [List.drop_zero]⟩ (fun _ _ _ _ ⟨_, _, _, _, e, _⟩ => by rw [e]; exact hS5) ?_ ?_
    · rintro i xv σ' H6 H7 hi ⟨x', v3, v4, rfl, rfl, y0, y1, hpk⟩ ⟨rfl, hx1⟩
      obtain ⟨y, hy, q0, w, rfl, hq, hT⟩ := paired_nth hP hx1
      have hd2 : ps.drop i = y :: ps.drop (i + 1) := drop_at hy
      have sd : sidesT (ps.drop i) = y.1 + sidesT (ps.drop (i + 1)) := by unfold sidesT; rw [hd2, List.map_cons, List.sum_cons]
      rw [hd2, pickT] at hpk
      refine L_gTup ((sm2 b5).seqT hq) rfl ?_
      walk_at "sts"
      refine L_d (fun c => ?_) (fun c => ?_)
      · rw [if_pos c] at hpk
        walk_at "sts"
        refine ⟨d', by omega, w, d', y.2, ts ++ [x], n2, _, _, _, rfl, rfl, by rw [List.length_append, List.length_singleton]; omega, b5, p5, L5, hT, (hoks y (List.mem_of_getElem? hy)).2, fun us2 ks hu => ?_⟩
        have := hway (x :: us2) ks (.node x0 hpk hu)
        rw [List.append_assoc]
        exact this
      · rw [if_neg c] at hpk
        walk_at "sts"
        exact ⟨x' - y.1, _, _, rfl, rfl, by omega, by omega, hpk⟩
    · rintro σ' H6 ⟨x', v3, v4, rfl, rfl, y0, y1, hpk⟩
      rw [ul, List.drop_length] at y1
      have : sidesT [] = 0 := rfl
      omega
theorem rtn_new (K : PySem.W.Frag) {H : Hp} {k : List Int} {r : Rat} {t : Addr} {kvs : List (List Key × V)} {Z : Wt} (h : Paired (RtN H) kvs Z) (n : (Z.map (·.1)).Nodup) (hk : k ∉ Z.map (·.1)) (ht : H t = some (.tup [.int (qt r).1, .int (qt r).2])) : Paired (RtN H) (putK kvs (kL k) (.ref t)) (Z ++ [(k, r)]) := by
  have l0 : lookW Z k = 0 := by
    rcases rt_val (K := K) (k := k) (paired_imp2 (fun _ _ h => h.rtP) h) with ⟨_, _, e⟩ | ⟨_, _, _, e⟩
    · exact e
    · exact (hk e).elim
  have := rtn_put K (v := r) h n (t := t) (by rw [l0, Rat.zero_add]; exact ht)
  rw [addW_no hk, Rat.zero_add] at this
  exact this
/-- walks told: the table by a walk, of a tree with few ways -/
structure WalkOk (d : Nat) (t : Tr) : Prop where
  ok : OkT d t
  d5 : d ≤ 5
  b : dnT d t ≤ 2 ^ 3000
  l : (waysQ d t 1).length ≤ 300
theorem WalkOk.bd {d : Nat} {t : Tr} (h : WalkOk d t) {w : List Int × Rat} (hw : w ∈ rowsW (waysQ d (srtT d t) 1)) : BdQ 3001 w.2 := by
  have ow := okT_okW h.ok
  have gw := good_ways ow
  have e : waysQ d (srtT d t) 1 = (waysQ d t 1).map fun z => (srtI z.1, z.2) := ways_srt
  have g2 : GoodW (dnT d t) (waysQ d (srtT d t) 1) := by
    rw [e]
    refine ⟨fun z hz => ?_, by rw [evW_keys]; exact gw.s⟩
    obtain ⟨z0, hz0, rfl⟩ := List.mem_map.mp hz
    exact gw.p z0 hz0
  have g3 := (g2.rows _ (Nat.le_refl _)).1
  rw [List.take_length] at g3
  exact g3.bdk (dnT_pos ow) h.b hw
theorem q_walk {H : Hp} {Q : VK} {E : XK} {d : Nat} {t : Tr} {v : V} {mu dd : Addr} (w : WalkOk d t) (hv : TreeV K H d t v) (hmu : H mu = some (.tup [.int 1, .int 1])) (hd : H dd = some (.dT [])) (q : ∀ H' kvs, Bdt dd H H' → H' dd = some (.dT kvs) → Paired (RtN H') kvs (rowsW (waysQ d (srtT d t) 1)) → kvs.length ≤ 300 → Q (.ref dd) H') : sp__law_walk K mg [v, .ref mu, .ref dd] H Q E := by
  have ow := okT_okW w.ok
  have gw := good_ways ow
  have dp := dnT_pos ow
  have hb : dnT d t ≤ 2 ^ 3800 := Int.le_trans w.b (by decide +kernel)
  have hl := w.l
  have h5 := w.d5
  refine ⟨d, t, 1, 1, dnT d t, 0, [], [], Nat.le_trans h5 (by decide), hv, w.ok, .of hmu, ⟨by unfold Bd; decide +kernel, by unfold Bd; decide +kernel⟩, by omega, by decide +kernel, hd, .nil, by rw [List.length_nil, Nat.zero_add]; omega, dp, hb, ⟨(fun _ z => nomatch z), .nil, rfl⟩, by decide +kernel, fun w hw => (gw.p w hw).2, fun H4 kvs b4 e4 p4 => q H4 kvs b4 e4 p4 ?_⟩
  rw [Paired.length p4]
  have := addAll_len (waysQ d (srtT d t) 1) []
  rw [ways_srt, List.length_map, List.length_nil] at this
  rw [ways_srt]
  omega
theorem same_bdtN {H H0 H' : Hp} {p : Addr} (s : Same H H0) (n : H p = none) (b : Bdt p H0 H') : Same H H' := fun x o hb => b x o (s _ _ hb) fun z => by rw [z, n] at hb; cases hb
theorem L_cat3 {K : PySem.W.Frag} {H : Hp} {Q : VK} {a b : Addr} {xs ys : List Int} (ha : SqT K H a (xs.map V.int)) (hb : SqT K H b (ys.map V.int)) (hl : xs.length + ys.length ≤ 1000) (q : ∀ r H', Same H H' → SqT K H' r ((xs ++ ys).map V.int) → Q (.ref r) H') : rCatA K (.ref a) (.ref b) H Q := by
  refine ⟨a, b, _, _, rfl, rfl, ha, hb, sz_dec (by simp; omega), fun e => ?_, fun e1 e2 => ?_, fun e1 e2 r hr => ?_⟩
  · have : xs = [] := by simpa using e
    subst this
    exact q _ _ (.refl _) hb
  · have : ys = [] := by simpa using e2
    subst this
    exact q _ _ (.refl _) (by rw [List.append_nil]; exact ha)
  · exact q _ _ (same_new hr) (.of (by rw [upd_same, List.map_append]))
theorem prod_nil {a : List Int × Rat} {B : Wt} : prodW [a] (B.take 0) = [] := by rw [prod_one, List.take_zero]; rfl
theorem prod_step {A B : Wt} {i j : Nat} {a b : List Int × Rat} (hj : B[j]? = some b) : prodW (A.take i) B ++ prodW [a] (B.take (j + 1)) = (prodW (A.take i) B ++ prodW [a] (B.take j)) ++ [(srtI (a.1 ++ b.1), a.2 * b.2)] := by
  rw [show B.take (j + 1) = B.take j ++ [b] by rw [List.take_succ, hj]; rfl, prod_one, prod_one, List.map_append, List.append_assoc]
  rfl
theorem prod_row {A B : Wt} {i : Nat} {a : List Int × Rat} (hi : A[i]? = some a) : prodW (A.take (i + 1)) B = prodW (A.take i) B ++ prodW [a] B := by
  rw [show A.take (i + 1) = A.take i ++ [a] by rw [List.take_succ, hi]; rfl, prod_app]
theorem nd_prefix {A B : List (List Int)} (h : (A ++ B).Nodup) : A.Nodup := (List.nodup_append.mp h).1
theorem prod_pre {A B : Wt} {i j : Nat} {a : List Int × Rat} (h : ((prodW A B).map (·.1)).Nodup) (hi : A[i]? = some a) : ((prodW (A.take i) B ++ prodW [a] (B.take j)).map (·.1)).Nodup := by
  have e : prodW A B = (prodW (A.take i) B ++ prodW [a] (B.take j)) ++ (prodW [a] (B.drop j) ++ prodW (A.drop (i + 1)) B) := by
    conv => lhs; rw [← List.take_append_drop i A, drop_at hi]
    rw [show a :: A.drop (i + 1) = [a] ++ A.drop (i + 1) from rfl, prod_app, prod_app]
    conv => lhs; rw [show prodW [a] B = prodW [a] (B.take j) ++ prodW [a] (B.drop j) by rw [prod_one, prod_one, prod_one, ← List.map_append, List.take_append_drop]]
    simp only [List.append_assoc]
  rw [e, List.map_append] at h
  exact nd_prefix h
theorem prod_len {A B : Wt} : (prodW A B).length = A.length * B.length := by
  unfold prodW
  induction A with
  | nil => simp
  | cons a A ih => rw [List.flatMap_cons, List.length_append, ih, List.length_map, List.length_cons, Nat.succ_mul, Nat.add_comm]
def sp__law_both (K : PySem.W.Frag) (mg : Str → Option Value) : Sp := fun vs H Q _ => match vs with | [v, w] => ∃ (d e : Nat) (t u : Tr), WalkOk d t ∧ WalkOk e u ∧ TreeV K H d t v ∧ TreeV K H e u w ∧ (∀ z ∈ waysQ d (srtT d t) 1, ParK 0 z.1 ∧ z.1.length ≤ 20) ∧ (∀ z ∈ waysQ e (srtT e u) 1, ParK 1 z.1 ∧ z.1.length ≤ 20) ∧ ∀ p H' us S, H p = none → Same H H' → H' p = some (.lst us) → SrtOf (prodW (rowsW (waysQ d (srtT d t) 1)) (rowsW (waysQ e (srtT e u) 1))) S → Paired (WayQ K H') us S → Q (.ref p) H' | _ => False
theorem q__law_both {H : Hp} {Q : VK} {E : XK} {v : V} {w : V} (q : ∃ (d e : Nat) (t u : Tr), WalkOk d t ∧ WalkOk e u ∧ TreeV K H d t v ∧ TreeV K H e u w ∧ (∀ z ∈ waysQ d (srtT d t) 1, ParK 0 z.1 ∧ z.1.length ≤ 20) ∧ (∀ z ∈ waysQ e (srtT e u) 1, ParK 1 z.1 ∧ z.1.length ≤ 20) ∧ ∀ p H' us S, H p = none → Same H H' → H' p = some (.lst us) → SrtOf (prodW (rowsW (waysQ d (srtT d t) 1)) (rowsW (waysQ e (srtT e u) 1))) S → Paired (WayQ K H') us S → Q (.ref p) H') : sp__law_both K mg [v, w] H Q E := q
local macro_rules | `(tactic| walk_at "op") => `(tactic| with_reducible refine q__law_both ?_)
theorem c__law_both (T : Txt K mg base) : Cal P w K mg base 11 "_law_both" (sp__law_both K mg) := by
  refine T.d__law_both.cal (k := 10) sc__law_both (by intro vs H Q E h; unfold sp__law_both at h; split at h <;> first | rfl | exact h.elim) fun f cdv A outer s H vs Q E hr h => ?_
  refine ⟨_, (pss_cons (ps_set (i := 2) sc__law_both.nd rfl (.inl rfl) pe_dnewT)
    (pss_cons (ps_for PassesOwn.never rfl (pi_itemsTL (pe_c (c__law_walk T) hr (by decide) (by rfl) (pa_cons (pv 0) (pa_cons (pe_tup (pa_cons pe_int (pa_cons pe_int pa_nil))) (pa_cons pe_dnewT pa_nil))))) (pg_tup rfl (pgs_cons (pg_name (i := 3) sc__law_both.nd rfl (.inl rfl)) (pgs_cons (pg_name (i := 4) sc__law_both.nd rfl (.inl rfl)) pgs_nil)))
    (pss_one (ps_for PassesOwn.never rfl (pi_itemsTL (pe_c (c__law_walk T) hr (by decide) (by rfl) (pa_cons (pv 1) (pa_cons (pe_tup (pa_cons pe_int (pa_cons pe_int pa_nil))) (pa_cons pe_dnewT pa_nil))))) (pg_tup rfl (pgs_cons (pg_name (i := 5) sc__law_both.nd rfl (.inl rfl)) (pgs_cons (pg_name (i := 6) sc__law_both.nd rfl (.inl rfl)) pgs_nil)))
    (pss_one (ps_dput (hu_of hr) (pv 2) (pe_callTy call_tuple1A (by rfl) T.n_tuple (by decide +kernel) (pa_cons (pe_callB cr_sortedQ (by rfl) T.n_sorted (by decide +kernel) (pa_cons (pe_op op_catA (pv 3) (pv 5)) pa_nil)) pa_nil)) (pe_c (c__law_product T) hr (by decide) (by rfl) (pa_cons (pv 4) (pa_cons (pv 6) pa_nil))) rfl)))))
    (pss_one (ps_ret (pe_callB (cr_sortedII rfl hr.units) (by rfl) T.n_sorted (by decide +kernel) (pa_cons (pe_bm0 PySem.F.plainAttrs_dict PySem.F.slot_dict_items PySem.F.type_dict_items L2.DX.mt_itemsT (pv 2)) pa_nil)))))), ?_⟩
  try simp only [cxOf_K, cxOf_K', cxOf_mg, cxOf_mg']
  unfold sp__law_both at h
  split at h
  case h_2 => exact h.elim
  rename_i v w
  rw [show L2.start ["_law_one", "_law_other", "_law_found", "_law_kept_here", "_law_much", "_law_more", "_law_part"] [v, w] = [some (v), some (w), none, none, none, none, none] from rfl]
  obtain ⟨d, e, t, u, wt, wu, hv, hw, kt, ku, q⟩ := h
  have bdA := fun w hw => wt.bd (w := w) hw
  have bdB := fun w hw => wu.bd (w := w) hw
  have rk : ∀ {W : Wt} {P : List Int → Prop}, (∀ w ∈ W, P w.1) → ∀ w ∈ rowsW W, P w.1 := fun h w hw => by
    obtain ⟨z, hz, e⟩ := List.mem_map.mp (rows_keys.mp (List.mem_map_of_mem hw))
    rw [← e]
    exact h z hz
  have kA := rk (P := fun k => ParK 0 k ∧ k.length ≤ 20) kt
  have kB := rk (P := fun k => ParK 1 k ∧ k.length ≤ 20) ku
  have lB0 : (rowsW (waysQ e (srtT e u) 1)).length ≤ 300 := by
    have := addAll_len (waysQ e (srtT e u) 1) []
    rw [ways_srt, List.length_map, List.length_nil] at this
    have l := wu.l
    rw [ways_srt]
    show (addAll [] _).length ≤ 300
    omega
  have ndP := prod_nd (rows_nd (waysQ d (srtT d t) 1)) (rows_nd (waysQ e (srtT e u) 1)) (fun a h => (kA a h).1) (fun a h => (kB a h).1)
  walk_at "sts"
  walk_at "nwp"
  rename_i f hf H1 s1 e1
  walk_at "sts"
  refine L_iItemsTL ?_
  walk_at "sts"
  walk_at "nw"
  rename_i mu hmu H2 s2 e2
  walk_at "sts"
  walk_at "nwp"
  rename_i dd hdd H3 s3 e3
  walk_at "sts"
  refine q_walk wt (treeV_same hv (s1.trans (s2.trans s3))) (s3 _ _ e2) e3 fun H4 kvs b4 e4 p4 kl4 => ?_
  generalize rowsW (waysQ d (srtT d t) 1) = A at *
  generalize hBe : rowsW (waysQ e (srtT e u) 1) = B at *
  have s24 : Same H2 H4 := same_bdtN s3 hdd b4
  have s14 : Same H1 H4 := s2.trans s24
  refine ⟨dd, kvs, rfl, e4, fun od => ?_⟩
  have fn4 : H4 f = some (.dT []) := s14 _ _ e1
  have nfd : f ≠ dd := fun z => by rw [← z, s2 _ _ e1] at hdd; cases hdd
  have s05 : Same H (L2.upd H4 dd (.frz od (.dT kvs))) := fun b o hb => by
    have h2 := s2 _ _ (s1 _ _ hb)
    rw [upd_ne fun z => by rw [z, hdd] at h2; cases h2]
    exact s24 _ _ h2
  have f5 : L2.upd H4 dd (.frz od (.dT kvs)) f = some (.dT []) := by rw [upd_ne nfd]; exact fn4
  have d5 : L2.upd H4 dd (.frz od (.dT kvs)) dd = some (.frz od (.dT kvs)) := upd_same
  have p5 : Paired (RtN (L2.upd H4 dd (.frz od (.dT kvs)))) kvs A := paired_imp2 (fun _ _ h => RtN.keep h e4 fun b o hb ne => by rw [upd_ne ne]; exact hb) p4
  generalize L2.upd H4 dd (.frz od (.dT kvs)) = H5 at s05 f5 d5 p5 ⊢
  have kl := Paired.length p5
  refine f_it walk_itemsT (fun i σ' H' => ∃ (kf : List (List Key × V)) (v3 v4 v5 v6 : Option V), σ' = [some v, some w, some (.ref f), v3, v4, v5, v6] ∧ Bdt f H5 H' ∧ H' f = some (.dT kf) ∧ Paired (RtN H') kf (prodW (A.take i) B)) ⟨[], _, _, _, _, rfl, .refl, f5, .nil⟩ (fun _ _ _ _ ⟨_, _, _, _, _, _, b, _⟩ => b _ _ d5 nfd.symm) ?_ ?_
  · rintro i x σ' H6 H6' hi ⟨kf, v3, v4, v5, v6, rfl, b6, f6, p6⟩ ⟨T1, kq, k0, vv, hkv, rfl, hT1, hkq, rfl⟩
    obtain ⟨a, ha, ek, ap, ev, hap⟩ := paired_nth p5 hkv
    dsimp only at ek ev
    subst ek ev
    have ham := List.mem_of_getElem? ha
    have nf5 : ∀ {b o}, H5 b = some o → (∀ kvs, o ≠ .dT kvs) → H6 b = some o := fun {b o} hb n => b6 b o hb fun z => by rw [z, f5] at hb; cases hb; exact n _ rfl
    have hap6 := nf5 hap (fun _ z => nomatch z)
    have s7 := same_new (o := .tup [.ref kq, .ref ap]) hT1
    refine L_gTup (.of upd_same) rfl ?_
    generalize L2.upd H6 T1 (.tup [.ref kq, .ref ap]) = H7 at s7 ⊢
    walk_at "sts"
    refine L_iItemsTL ?_
    walk_at "sts"
    walk_at "nw"
    rename_i mu2 hmu2 H8 s8 e8
    walk_at "sts"
    walk_at "nwp"
    rename_i d2 hd2 H9 s9 e9
    walk_at "sts"
    have hw9 : TreeV K H9 e u w := treeV_same (treeV_gen (fun a xs h => Bdt.seqL b6 f5 (s05.seq h)) (fun a xs h => Bdt.seqT b6 f5 (s05.seqT h)) e u w hw) (s7.trans (s8.trans s9))
    refine q_walk wu hw9 (s9 _ _ e8) e9 fun H10 kvs2 b10 e10 p10 kl10 => ?_
    rw [hBe] at p10
    have s810 : Same H8 H10 := same_bdtN s9 hd2 b10
    have s610 : Same H6 H10 := s7.trans (s8.trans s810)
    refine ⟨d2, kvs2, rfl, e10, fun od2 => ?_⟩
    have s611 : Same H6 (L2.upd H10 d2 (.frz od2 (.dT kvs2))) := fun b o hb => by
      have h8 := s8 _ _ (s7 _ _ hb)
      rw [upd_ne fun z => by rw [z, hd2] at h8; cases h8]
      exact s810 _ _ h8
    have d11 : L2.upd H10 d2 (.frz od2 (.dT kvs2)) d2 = some (.frz od2 (.dT kvs2)) := upd_same
    have p11 : Paired (RtN (L2.upd H10 d2 (.frz od2 (.dT kvs2)))) kvs2 B := paired_imp2 (fun _ _ h => RtN.keep h e10 fun b o hb ne => by rw [upd_ne ne]; exact hb) p10
    generalize L2.upd H10 d2 (.frz od2 (.dT kvs2)) = H11 at s611 d11 p11 ⊢
    have f11 := s611 _ _ f6
    have nfd2 : d2 ≠ f := fun z => by rw [z, s8 _ _ (s7 _ _ f6)] at hd2; cases hd2
    have kl2 := Paired.length p11
    refine f_it walk_itemsT (fun j σ' H' => ∃ (kf2 : List (List Key × V)) (v5 v6 : Option V), σ' = [some v, some w, some (.ref f), some (.ref kq), some (.ref ap), v5, v6] ∧ Bdt f H11 H' ∧ H' f = some (.dT kf2) ∧ Paired (RtN H') kf2 (prodW (A.take i) B ++ prodW [a] (B.take j))) ⟨kf, _, _, rfl, .refl, f11, by rw [prod_nil, List.append_nil]; exact paired_imp2 (fun _ _ h => RtN.same h s611) p6⟩ (fun _ _ _ _ ⟨_, _, _, _, b, _⟩ => b _ _ d11 nfd2) ?_ ?_
    · rintro j y σ' H12 H12' hj ⟨kf2, v5, v6, rfl, b12, f12, p12⟩ ⟨T2, kq2, k2, vv2, hkv2, rfl, hT2, hkq2, rfl⟩
      obtain ⟨b, hb, ek2, bp, ev2, hbp⟩ := paired_nth p11 hkv2
      dsimp only at ek2 ev2
      subst ek2 ev2
      have hbm := List.mem_of_getElem? hb
      have n11 : ∀ {b o}, H11 b = some o → (∀ kvs, o ≠ .dT kvs) → H12 b = some o := fun {b o} hb n => b12 b o hb fun z => by rw [z, f11] at hb; cases hb; exact n _ rfl
      have hbp12 := n11 hbp (fun _ z => nomatch z)
      have hap12 := n11 (s611 _ _ hap6) (fun _ z => nomatch z)
      have hkq12 := n11 (s611 _ _ hkq) (fun _ z => nomatch z)
      rw [kL_v] at hkq12 hkq2
      have s13 := same_new (o := .tup [.ref kq2, .ref bp]) hT2
      refine L_gTup (.of upd_same) rfl ?_
      generalize L2.upd H12 T2 (.tup [.ref kq2, .ref bp]) = H13 at s13 ⊢
      walk_at "sts"
      refine ⟨a.2, b.2, .of (s13 _ _ hap12), .of (s13 _ _ hbp12), (bdA a ham).mono (by decide), (bdB b hbm).mono (by decide), fun t0 H14 ht0 s14' e14 => ?_⟩
      walk_at "sts"
      have s1214 := s13.trans s14'
      have la := (kA a ham).2
      have lb := (kB b hbm).2
      refine L_cat3 (xs := a.1) (ys := b.1) (.of (s1214 _ _ hkq12)) (.of (s1214 _ _ hkq2)) (by omega) fun r0 H15 s15 hr0 => ?_
      walk_at "sts"
      refine ⟨r0, _, rfl, .inr hr0, fun ns p3 hp3 hs hn1 => ?_⟩
      cases srtI_eq hp3 hs
      walk_at "sts"
      refine L_tuple1 (.of upd_same) fun l hl2 => ?_
      have s16 := (same_new (o := .lst ((srtI (a.1 ++ b.1)).map V.int)) hn1).trans (same_new (o := .tup ((srtI (a.1 ++ b.1)).map V.int)) hl2)
      have e16 : L2.upd (L2.upd H15 p3 (.lst ((srtI (a.1 ++ b.1)).map V.int))) l (.tup ((srtI (a.1 ++ b.1)).map V.int)) l = some (.tup ((kL (srtI (a.1 ++ b.1))).map kV)) := by rw [kL_v]; exact upd_same
      generalize L2.upd (L2.upd H15 p3 (.lst ((srtI (a.1 ++ b.1)).map V.int))) l (.tup ((srtI (a.1 ++ b.1)).map V.int)) = H16 at s16 e16 ⊢
      have s1216 := s1214.trans (s15.trans s16)
      have f16 := s1216 _ _ f12
      have pl12 := Paired.length p12
      have lenA : A.length ≤ 300 := by omega
      have lenB : B.length ≤ 300 := lB0
      refine L_dputT (k := kL (srtI (a.1 ++ b.1))) f16 e16 (by
        rw [pl12, List.length_append, prod_len, prod_len, List.length_take, List.length_take, List.length_singleton]
        have h1 : min i A.length * B.length ≤ 300 * 300 := Nat.mul_le_mul (by omega) lenB
        omega) ?_
      have p16 := paired_imp2 (fun _ _ h => RtN.same h s1216) p12
      have hput := rtn_new K (k := srtI (a.1 ++ b.1)) (r := a.2 * b.2) (t := t0) p16 (prod_pre ndP ha) (prod_new ndP ha hb) ((s15.trans s16) _ _ e14)
      refine ⟨_, _, _, rfl, (b12.trans (.same s1216)).upd, upd_same, ?_⟩
      rw [prod_step hb]
      exact paired_imp2 (fun _ _ h => RtN.keep h f16 fun b o hb ne => by rw [upd_ne ne]; exact hb) hput
    · rintro σ' H12 ⟨kf2, v5, v6, rfl, b12, f12, p12⟩
      rw [kl2, List.take_length, ← prod_row ha] at p12
      walk_at "sts"
      exact ⟨kf2, _, _, _, _, rfl, b6.trans ((Bdt.same s611).trans b12), f12, p12⟩
  · rintro σ' H6 ⟨kf, v3, v4, v5, v6, rfl, b6, f6, p6⟩
    rw [kl, List.take_length] at p6
    have s06 : Same H H6 := fun b o hb => b6 b o (s05 _ _ hb) fun z => by rw [z, hf] at hb; cases hb
    obtain ⟨ks, rfl, hks⟩ := rtn_ks p6
    have kl6 := Paired.length hks
    walk_at "sts"
    refine L_itemsD f6 ?_
    intro p7 hp7
    have s7 : Same H6 (upd H6 p7 (DX.itemsO p7 f)) := same_new hp7
    have e7 : (upd H6 p7 (DX.itemsO p7 f)) p7 = some (DX.itemsO p7 f) := upd_same
    have f7 := s7 _ _ f6
    generalize upd H6 p7 (DX.itemsO p7 f) = H7 at s7 e7 f7 ⊢
    walk_at "sts"
    refine L_sortII (M := fun k => [Sum.inl (qt (lookW (prodW A B) k)).1, Sum.inl (qt (lookW (prodW A B) k)).2]) e7 f7 (by
      rw [kl6, prod_len]
      have h1 : A.length * B.length ≤ 300 * 300 := Nat.mul_le_mul (by omega) lB0
      omega) (fun e he => ?_) ?_
    · obtain ⟨b, hb, e1, e2⟩ := paired_memL hks he
      rw [e1, look_mem ndP hb]
      exact s7 _ _ e2
    intro H8 rp ps8 s8 g8 hrp hperm hsrt e8 hpr
    obtain ⟨hSr, hM⟩ := srt_ps ndP hks hperm hsrt
    walk_at "sts"
    refine q rp H8 _ _ (s06.free (s7.free hrp)) (s06.trans (s7.trans s8)) e8 hSr (paired_self fun z hz => ?_)
    obtain ⟨q, a1, a2⟩ := hpr z hz
    exact ⟨_, _, _, rfl, a1, a2, .of ((s7.trans s8) _ _ (hM z hz))⟩
/-- where one goes on behind what is kept -/
def gonL (s : Int) (ks : List Int) : Tr := if ks.length % 2 = 1 then .leaf (srtI ks ++ [99]) else .node [(1, .leaf []), (s, .leaf [97]), (2, .leaf (srtI ks))]
def gonT (s : Int) : Nat → Tr → Tr
  | _, .leaf ks => gonL s ks
  | 0, .node _ => .node []
  | d + 1, .node ps => .node (ps.map fun y => (y.1, gonT s d y.2))
theorem gonT_leaf {s : Int} {d : Nat} {ks : List Int} : gonT s d (.leaf ks) = gonL s ks := by cases d <;> rfl
/-- new from H0 on -/
abbrev NewA (H0 : Hp) : Addr → Prop := fun b => H0 b = none
def spq__law_gone_on (D : Nat) (K : PySem.W.Frag) (mg : Str → Option Value) : Sp := fun vs H Q _ => match vs with | [v, .int s] => ∃ (d : Nat) (t : Tr), d ≤ D ∧ TreeV K H d t v ∧ OkT d t ∧ ∀ w H', Same H H' → TreeV K (rs (NewA H) H') (d + 1) (gonT s d t) w → Q w H' | _ => False
def spr__law_gone_on : Nat → PySem.W.Frag → (Str → Option Value) → Sp
  | 0, _, _ => fun _ _ _ _ => False
  | D + 1, K, mg => spq__law_gone_on D K mg
abbrev sp__law_gone_on (K : PySem.W.Frag) (mg : Str → Option Value) : Sp := spr__law_gone_on 6 K mg
theorem cr__law_gone_on (T : Txt K mg base) : ∀ D : Nat, Cal P w K mg base (0 + D) "_law_gone_on" (spr__law_gone_on D K mg)
  | 0 => T.d__law_gone_on.calF
  | D + 1 => by
    have ih := cr__law_gone_on T D
    refine T.d__law_gone_on.cal (k := 0 + D) sc__law_gone_on (by intro vs H Q E h; replace h : spq__law_gone_on D K mg vs H Q E := h; unfold spq__law_gone_on at h; split at h <;> first | rfl | exact h.elim) fun f cdv A outer s H vs Q E hr h => ?_
    refine ⟨_, (pss_cons (ps_if (pt_val (pe_callB call_isi (by rfl) T.n_isinstance (by decide +kernel) (pa_cons (pv 0) (pa_cons (pe_ty "list" (by rfl) T.n_list (by decide +kernel)) pa_nil))))
    (pss_cons (ps_if (pt_cmpR (op_eqA hr) (pe_op op_mod (pe_callB call_lenA (by rfl) T.n_len (by decide +kernel) (pa_cons (pv 0) pa_nil)) pe_int) pe_int (nomark _))
    (pss_one (ps_ret (pe_op op_addA (pe_callB cr_sortedQ (by rfl) T.n_sorted (by decide +kernel) (pa_cons (pv 0) pa_nil)) (pe_lst (pa_cons pe_int pa_nil)))))
    pss_nil)
    (pss_one (ps_ret (pe_tup (pa_cons (pe_tup (pa_cons pe_int (pa_cons (pe_lst pa_nil) pa_nil))) (pa_cons (pe_tup (pa_cons (pv 1) (pa_cons (pe_lst (pa_cons pe_int pa_nil)) pa_nil))) (pa_cons (pe_tup (pa_cons pe_int (pa_cons (pe_callB cr_sortedQ (by rfl) T.n_sorted (by decide +kernel) (pa_cons (pv 0) pa_nil)) pa_nil))) pa_nil)))))))
    pss_nil)
    (pss_one (ps_ret (pe_callTy call_tuple1A (by rfl) T.n_tuple (by decide +kernel) (pa_cons (pe_lc (own := [("_law_many", 2), ("_law_part", 3)]) (g := (gTup K 2 (gCons (gName 2) (gCons (gName 3) gNil)))) (tt := tYes) (te := (tTup (tCons (tVar 2) (tCons (tCall (spr__law_gone_on D K mg) [] E0 (tCons (tVar 3) (tCons (tVar 1) tNil))) tNil)))) rfl sc__law_gone_on.nd (pi_tup (pv 0)) (blkOk_by (N := ["_law_tree_here", "_law_sides", "_law_many", "_law_part"]) (sc := defScope s__law_gone_on) (by decide +kernel)) (fun _ _ _ _ _ => by exact (pg_tup rfl (pgs_cons (pg_name (i := 2) sc__law_gone_on.nd rfl (.inl rfl)) (pgs_cons (pg_name (i := 3) sc__law_gone_on.nd rfl (.inl rfl)) pgs_nil)))) (fun _ _ _ _ _ => pts_nil) (fun _ _ _ _ _ => by exact (pe_tup (pa_cons (pv 2) (pa_cons (pe_c ih hr (by omega) (by rfl) (pa_cons (pv 3) (pa_cons (pv 1) pa_nil))) pa_nil))))) pa_nil))))), ?_⟩
    try simp only [cxOf_K, cxOf_K', cxOf_mg, cxOf_mg']
    replace h : spq__law_gone_on D K mg vs H Q E := h
    unfold spq__law_gone_on at h
    split at h
    case h_2 => exact h.elim
    rename_i v s
    rw [show L2.start ["_law_tree_here", "_law_sides", "_law_many", "_law_part"] [v, V.int s] = [some (v), some (V.int s), none, none] from rfl]
    obtain ⟨d, t, hd, hv, hok, q⟩ := h
    match d, t, hv, hok, q, hd with
    | d, .leaf ks, hv, hok, q, hd =>
      obtain ⟨a, rfl, hS⟩ := treeV_leaf hv
      rw [gonT_leaf] at q
      have hk8 := (okT_leaf hok).1
      walk_at "sts"
      refine L_isi (tyx_L hS) (b := true) (by decide +kernel) ?_
      walk_at "sts"
      refine L_lenL hS ?_
      rw [List.length_map]
      walk_at "sts"
      refine L_I (by decide) ?_
      walk_at "sts"
      refine L_d (fun c => ?_) (fun c => ?_)
      · have eg : gonL s ks = .leaf (srtI ks ++ [99]) := if_pos (by omega)
        rw [eg] at q
        walk_at "sts"
        refine ⟨a, ks, rfl, .inl hS, fun ns p hp hs hn1 => ?_⟩
        cases srtI_eq hp hs
        walk_at "sts"
        have sa := same_new (o := .lst ((srtI ks).map V.int)) hn1
        have ea : upd H p (.lst ((srtI ks).map V.int)) p = some (.lst ((srtI ks).map V.int)) := upd_same
        generalize upd H p (.lst ((srtI ks).map V.int)) = Ha at sa ea ⊢
        walk_at "nw"
        rename_i p1 hp1 H2 s2 e2
        refine L_addL (s2 _ _ ea) e2 (sz_dec (by rw [List.length_map, srtI_len, List.length_singleton]; omega)) fun l hl => ?_
        have s02 := sa.trans s2
        walk_at "sts"
        exact q _ _ (s02.trans (same_new hl)) (treeV_mk (.of (rs_at (s02.free hl) (by rw [List.map_append]; exact upd_same))))
      · have eg : gonL s ks = .node [(1, .leaf []), (s, .leaf [97]), (2, .leaf (srtI ks))] := if_neg (by omega)
        rw [eg] at q
        walk_at "sts"
        walk_at "nw"
        rename_i p1 hp1 H1 s1 e1
        walk_at "sts"
        walk_at "nw"
        rename_i p2 hp2 H2 s2 e2
        walk_at "sts"
        walk_at "nw"
        rename_i p3 hp3 H3 s3 e3
        walk_at "sts"
        walk_at "nw"
        rename_i p4 hp4 H4 s4 e4
        walk_at "sts"
        have s02 := s1.trans s2
        have s03 := s02.trans s3
        have s04 := s03.trans s4
        refine ⟨a, ks, rfl, .inl (s04.seq hS), fun ns p hp hs hn1 => ?_⟩
        cases srtI_eq hp hs
        have s5 := same_new (o := .lst ((srtI ks).map V.int)) hn1
        have e5 : upd H4 p (.lst ((srtI ks).map V.int)) p = some (.lst ((srtI ks).map V.int)) := upd_same
        generalize upd H4 p (.lst ((srtI ks).map V.int)) = H5 at s5 e5 ⊢
        walk_at "sts"
        walk_at "nw"
        rename_i p6 hp6 H6 s6 e6
        walk_at "sts"
        walk_at "nw"
        rename_i p7 hp7 H7 s7 e7
        walk_at "sts"
        have s05 := s04.trans s5
        have s06 := s05.trans s6
        have s07 := s06.trans s7
        have e67 := s7 _ _ e6
        have e57 := s7 _ _ (s6 _ _ e5)
        have e47 := s7 _ _ (s6 _ _ (s5 _ _ e4))
        have e37 := s7 _ _ (s6 _ _ (s5 _ _ (s4 _ _ e3)))
        have e27 := s7 _ _ (s6 _ _ (s5 _ _ (s4 _ _ (s3 _ _ e2))))
        have e17 := s7 _ _ (s6 _ _ (s5 _ _ (s4 _ _ (s3 _ _ (s2 _ _ e1)))))
        exact q _ _ s07 ⟨p7, _, rfl, .of (rs_at (s06.free hp7) e7), .cons ⟨p2, .ref p1, rfl, .of (rs_at (s1.free hp2) e27), treeV_mk (.of (rs_at hp1 e17))⟩ (.cons ⟨p4, .ref p3, rfl, .of (rs_at (s03.free hp4) e47), treeV_mk (ks := [97]) (.of (rs_at (s02.free hp3) e37))⟩ (.cons ⟨p6, .ref p, rfl, .of (rs_at (s05.free hp6) e67), treeV_mk (.of (rs_at (s04.free hn1) e57))⟩ .nil))⟩
    | 0, .node ps, hv, hok, q, hd => exact hv.elim
    | d + 1, .node ps, hv, hok, q, hd =>
      obtain ⟨a, us, rfl, hS, hP⟩ := hv
      walk_at "sts"
      refine L_isi (tyx_T hS) (b := false) (by decide +kernel) ?_
      walk_at "sts"
      have ul := Paired.length hP
      obtain ⟨hne, hl4, hoks⟩ := hok
      refine ⟨a, rfl, ⟨_, hS⟩, ?_⟩
      refine lc_sD (fun D H1 u (y : Int × Tr) => PartD K (d + 1) H D H1 u (y.1, gonT s d y.2)) (fun D H0 H' u y s ⟨q, w, e1, n, h1, h2⟩ => ⟨q, w, e1, n, s _ _ h1, treeV_same h2 (rs_same fun a o n h => ⟨n, s _ _ h⟩)⟩) (fun H1 D us us' u y e ⟨q, w, e1, n, h1, h2⟩ => ⟨q, w, e1, n, by rw [upd_ne fun z => by rw [z, e] at h1; cases h1]; exact h1, treeV_same h2 (rs_same fun a o n h => ⟨n, by rw [upd_ne n.2]; exact h⟩)⟩) walk_tup ps (by omega) (by omega) (fun H' s => s.seqT hS) ?_ ?_
      · rintro dl us2 i x1 Ha Hb R R' hD eD hi sm ⟨rfl, hx1⟩ q1
        obtain ⟨y, hy, q0, w, rfl, hq, hT⟩ := paired_nth hP hx1
        refine L_gTup (sm.seqT hq) rfl ?_
        walk_at "sts"
        refine ⟨rfl, ?_⟩
        walk_at "sts"
        cases D with
        | zero => omega
        | succ D =>
        refine ⟨d, y.2, by omega, treeV_same hT sm, (hoks y (List.mem_of_getElem? hy)).2, fun w2 H5 s5 hw2 => ?_⟩
        walk_at "sts"
        walk_at "nw"
        rename_i p5 hp5 H6 s6 e6
        have hl5 := s5 _ _ eD
        refine q1 _ y _ hy (s5.trans s6) ⟨p5, w2, rfl, sm.free (s5.free hp5), e6, treeV_same hw2 (rs_same fun a o n h => ⟨⟨sm.free n, fun z => by have n2 : Hb a = none := n; rw [z, eD] at n2; cases n2⟩, s6 _ _ h⟩)⟩
      · intro p1 H1 vs hp1 s1 e1 hV
        walk_at "sts"
        refine L_tuple1 (.of e1) fun l hl => ?_
        walk_at "sts"
        refine q _ _ (s1.trans (same_new hl)) ⟨l, vs, rfl, .of (rs_at (s1.free hl) upd_same), ?_⟩
        refine paired_mapR (fun y : Int × Tr => (y.1, gonT s d y.2)) (paired_imp2 (fun u y ⟨q0, w, e0, n, h1, h2⟩ => ⟨q0, w, e0, .of (rs_at n (same_new hl _ _ h1)), treeV_same h2 (rs_same fun a o n h => ⟨n.1, same_new hl _ _ h⟩)⟩) hV)
theorem c__law_gone_on (T : Txt K mg base) : Cal P w K mg base 6 "_law_gone_on" (sp__law_gone_on K mg) := cr__law_gone_on T 6
def sp__law_go (K : PySem.W.Frag) (mg : Str → Option Value) : Sp := fun vs H Q _ => match vs with | [.int s] => Tb K mg H ∧ ∀ f H', Eg K mg No H H' → LamAt__law_go_l0 K mg [.int s] f H H' → Q (.ref f) H' | _ => False
theorem q__law_go {H : Hp} {Q : VK} {E : XK} {s : Int} (q : Tb K mg H ∧ ∀ f H', Eg K mg No H H' → LamAt__law_go_l0 K mg [.int s] f H H' → Q (.ref f) H') : sp__law_go K mg [.int s] H Q E := q
local macro_rules | `(tactic| walk_at "op") => `(tactic| with_reducible refine q__law_go ?_)
theorem c__law_go (T : Txt K mg base) : Cal P w K mg base 1 "_law_go" (sp__law_go K mg) := by
  refine T.d__law_go.calT (k := 0) sc__law_go (by intro vs H Q E h; unfold sp__law_go at h; split at h <;> first | rfl | exact h.elim) fun f A outer s H vs Q E hr h => ?_
  refine ⟨_, (psf_ret [("_law_sides", 0)] (show ∀ a ∈ ([("_law_sides", 0)] : List (Str × Nat)), (defScope s__law_go).names.lookup a.1 = some .cell ∧ (["_law_sides"] : List Str)[a.2]? = some a.1 from by decide +kernel) (fun _ _ h => cab_ok h) (pe_lamX (T := tabsX K mg) (q := "_law_go.<locals>.<lambda>") (inner := none) s__law_go e__law_go_l0 (by rfl) T.tb__law_go rfl (show ("_law_go" : Str) ++ ".<locals>." ++ "<lambda>" = ("_law_go.<locals>.<lambda>" : Str) from by decide +kernel) (by unfold tabsX; simp) T.hu__law_go (by rfl) (freeIn_ok (sc := defScope s__law_go) (lsc := lamS s__law_go e__law_go_l0) (by decide +kernel)))), ?_⟩
  try simp only [cxOf_K, cxOf_K', cxOf_mg, cxOf_mg']
  unfold sp__law_go at h
  split at h
  case h_2 => exact h.elim
  rename_i s
  rw [show L2.start ["_law_sides"] [V.int s] = [some (V.int s)] from rfl]
  obtain ⟨hT, q⟩ := h
  walk_at "sts"
  refine ⟨hT, fun f c' H1 ex T1 hf e1 e2 => ?_⟩
  refine ⟨[("_law_sides", 0)], [.int s], by simp, by decide, rfl, fun H' inj sm hat => ?_⟩
  have hn := held_new (names := (lamS s__law_go e__law_go_l0).names) (H0 := H1) (H := H') (fr := ["_law_sides"]) (ws := [.int s]) inj (frIs_ok (by decide +kernel)) rfl fun i y w hi hw => by
    match i, hi, hw with
    | 0, hi, hw => cases hi; cases hw; exact hat 0 _ _ rfl rfl
  exact q f H' (ex.trans (.same sm)) ⟨c', _, sm _ _ e1, e2.ext sm, hn.1, fun y a e => ex.dm a (hn.2 y a e)⟩
def sp__law_go_l0 (K : PySem.W.Frag) (mg : Str → Option Value) : List V → List V → Hp → VK → Prop := fun ws vs H Q => match ws, vs with | [.int s], [.ref k] => ∃ (W : Addr → Prop) (ks : List Int), SqT K H k (ks.map V.int) ∧ OkT 0 (.leaf ks) ∧ OkT 1 (gonL s ks) ∧ (∀ b, W b → ∃ xs, H b = some (.lst xs)) ∧ Tb K mg H ∧ ∀ x H', Eg K mg No H H' → NodeAt K mg 30 1 W (srtT 1 (gonL s ks)) x H' → Q x H' | _, _ => False
theorem nsc__law_go_l0 : NScope ["_law_kept_here", "_law_sides"] ["_law_kept_here"] ["_law_sides"] (lamS s__law_go e__law_go_l0) := nscope_by (by decide +kernel)
theorem c__law_go_l0 (T : Txt K mg base) : LOkP P w K mg base (tabsX K mg) (7) "_law_go.<locals>.<lambda>" (lamP s__law_go e__law_go_l0) (lamB e__law_go_l0) (lamS s__law_go e__law_go_l0) ["_law_sides"] none (sp__law_go_l0 K mg) := by
  refine lokP_of (N := ["_law_kept_here", "_law_sides"]) (ps := ["_law_kept_here"]) (k := 6) nsc__law_go_l0 (by intro cl c pm ctv us hl; match us, hl with | [_], _ => rfl) (by intro ws vs H Q h; unfold sp__law_go_l0 at h; split at h <;> first | rfl | exact h.elim) fun f c cl A outer s H ws vs Q hr len hin h => ?_
  refine ⟨_, (pe_c (c__law_node T) hr (by decide) (by rfl) (pa_cons (pe_c (c__law_gone_on T) hr (by decide) (by rfl) (pa_cons (pe_callTy call_list1A (by rfl) T.n_list (by decide +kernel) (pa_cons (pv 0) pa_nil)) (pa_cons (pv 1) pa_nil))) pa_nil)), ?_⟩
  try simp only [ncx_K, ncx_mg]
  unfold sp__law_go_l0 at h
  split at h
  case h_2 => exact h.elim
  rename_i s k
  rw [show startF ["_law_kept_here", "_law_sides"] [V.ref k] ([V.int s].map some) = [some (V.ref k), some (V.int s)] from rfl]
  obtain ⟨W, ks, hk, hok, hok2, hW, hT, q⟩ := h
  walk_at "sts"
  refine ⟨k, _, rfl, .inr hk, fun l hl => ?_⟩
  have s1 := same_new (o := .lst (ks.map V.int)) hl
  have e1 : upd H l (.lst (ks.map V.int)) l = some (.lst (ks.map V.int)) := upd_same
  generalize upd H l (.lst (ks.map V.int)) = H1 at s1 e1 ⊢
  walk_at "sts"
  refine ⟨0, .leaf ks, by decide, treeV_mk (.of e1), hok, fun w H2 s2 hw => ?_⟩
  walk_at "sts"
  have ev2 : Eg K mg No H H2 := .same (s1.trans s2)
  refine ⟨W, 1, gonL s ks, treeV_same hw (rs_same fun a o n h => ⟨fun z => ?_, h⟩), hok2, ev2.tb hT, fun x H3 ev hx => q x H3 (ev2.trans ev) (lawAt_node 1 hx ev.no)⟩
  obtain ⟨xs, hx⟩ := hW a z
  have n2 : H1 a = none := n
  rw [s1 _ _ hx] at n2
  cases n2
/-- a way, as data -/
def dW (w : List Int × Rat) : PyData := .tuple [.tuple (w.1.map .int), .tuple [.int (qt w.2).1, .int (qt w.2).2]]
theorem dW_dp {K : PySem.W.Frag} {H : Hp} : ∀ {us : List V} {S : Wt}, Paired (WayQ K H) us S → DpAll K H us (S.map dW)
  | _, _, .nil => .nil
  | _, _, .cons h t => by
    obtain ⟨q, kp, m, rfl, h1, h2, h3⟩ := h
    exact .cons (.tup (.of h1) (.cons (.tup (.of h2) (dp_ints _)) (.cons (.tup h3 (.cons (.int _) (.cons (.int _) .nil))) .nil))) (dW_dp t)
theorem srtI_idem (ks : List Int) : srtI (srtI ks) = srtI ks := (srtI_eq (List.Perm.refl _) ((List.pairwise_mergeSort (le := fun a b : Int => decide (a ≤ b)) (fun a b c h1 h2 => by simp only [decide_eq_true_eq] at *; omega) (fun a b => by simp only [Bool.or_eq_true, decide_eq_true_eq]; omega) ks).imp fun h => by simpa using h)).symm
theorem q_tree {H : Hp} {Q : VK} {E : XK} {p : Addr} {i : Int} (q : ∃ (n : Int) (d : Nat), i = (d : Int) ∧ d ≤ 4 ∧ H p = some (.lst [.int n]) ∧ TreeQ K p d H Q) : sp__law_tree K mg [.ref p, .int i] H Q E := q
theorem same_butN {H H0 H' : Hp} {p : Addr} (s : Same H H0) (n : H p = none) (b : But p H0 H') : Same H H' := fun x o hb => b x o (s _ _ hb) fun z => by rw [z, n] at hb; cases hb
theorem all_imp {A B : List Int → Prop} (h : ∀ ks, A ks → B ks) : ∀ {d : Nat} {t : Tr}, Tr.all A d t → Tr.all B d t
  | d, .leaf ks, a => by cases d <;> exact h _ a
  | 0, .node _, a => a.elim
  | d + 1, .node ps, a => fun y hy => all_imp h (a y hy)
theorem all_leaf {A : List Int → Prop} {d : Nat} {ks : List Int} : Tr.all A d (.leaf ks) ↔ A ks := by cases d <;> exact Iff.rfl
theorem okT_all : ∀ {d : Nat} {t : Tr}, OkT d t → Tr.all (fun ks => OkT 0 (.leaf ks)) d t
  | d, .leaf ks, h => all_leaf.mpr (okT_leaf h)
  | 0, .node _, h => h.elim
  | d + 1, .node ps, h => fun y hy => okT_all (h.2.2 y hy).2
theorem al6_all : ∀ {d : Nat} {t : Tr}, Al6 d t → Tr.all (fun ks => ks.length ≤ 6) d t
  | d, .leaf ks, h => all_leaf.mpr (al6_leaf.mp h)
  | 0, .node _, h => h.elim
  | d + 1, .node ps, h => fun y hy => al6_all (h y hy)
theorem al6_srt : ∀ {d : Nat} {t : Tr}, Al6 d t → Al6 d (srtT d t)
  | d, .leaf ks, h => by rw [srtT_leaf]; exact al6_leaf.mpr (by rw [srtI_len]; exact al6_leaf.mp h)
  | 0, .node _, h => h.elim
  | d + 1, .node ps, h => fun y hy => by
    obtain ⟨z, hz, rfl⟩ := List.mem_map.mp hy
    exact al6_srt (h z hz)
theorem all_and {A B : List Int → Prop} : ∀ {d : Nat} {t : Tr}, Tr.all A d t → Tr.all B d t → Tr.all (fun ks => A ks ∧ B ks) d t
  | d, .leaf ks, a, b => all_leaf.mpr ⟨all_leaf.mp a, all_leaf.mp b⟩
  | 0, .node _, h, _ => h.elim
  | d + 1, .node ps, a, b => fun y hy => all_and (a y hy) (b y hy)
theorem all_srt {A : List Int → Prop} : ∀ {d : Nat} {t : Tr}, Tr.all (fun ks => A (srtI ks)) d t → Tr.all A d (srtT d t)
  | d, .leaf ks, h => by rw [srtT_leaf]; exact all_leaf.mpr ((all_leaf (A := fun ks => A (srtI ks))).mp h)
  | 0, .node _, h => h.elim
  | d + 1, .node ps, h => fun y hy => by
    obtain ⟨z, hz, rfl⟩ := List.mem_map.mp hy
    exact all_srt (h z hz)
theorem ways_all {A : List Int → Prop} : ∀ {d : Nat} {t : Tr} {r : Rat}, Tr.all A d t → ∀ z ∈ waysQ d t r, A z.1
  | d, .leaf ks, r, h, z, hz => by
    rw [waysQ_leaf, List.mem_singleton] at hz
    rw [hz]
    exact all_leaf.mp h
  | 0, .node _, _, h, _, _ => h.elim
  | d + 1, .node ps, r, h, z, hz => by
    rw [waysQ_node, List.mem_flatMap] at hz
    obtain ⟨y, hy, hz⟩ := hz
    exact ways_all (h y hy) z hz
theorem dblT_leaf {odd : Int} {d : Nat} {ks : List Int} : dblT odd d (.leaf ks) = .leaf ((halves ks).map fun h => 2 * h + odd) := by cases d <;> rfl
theorem dbl_ok {odd : Int} (ho : odd = 0 ∨ odd = 1) : ∀ {d : Nat} {t : Tr}, OkT d t → Al6 d t → OkT d (dblT odd d t) ∧ Al6 d (dblT odd d t)
  | d, .leaf ks, h, a => by
    rw [dblT_leaf]
    have hl := halves_len ks
    have h6 := al6_leaf.mp a
    have hb := (okT_leaf h).2
    have l : ((halves ks).map fun h => 2 * h + odd).length ≤ 6 := by rw [List.length_map]; omega
    refine ⟨okT_mk l fun k hk => ?_, al6_leaf.mpr l⟩
    obtain ⟨x, hx, rfl⟩ := List.mem_map.mp hk
    obtain ⟨y, hy, rfl⟩ := halves_mem hx
    have := hb y hy
    rcases ho with rfl | rfl <;> omega
  | 0, .node _, h, _ => h.elim
  | d + 1, .node ps, h, a => by
    obtain ⟨h1, h2, h3⟩ := h
    refine ⟨⟨fun z => h1 (List.map_eq_nil_iff.mp z), by rw [List.length_map]; exact h2, fun p hp => ?_⟩, fun p hp => ?_⟩
    · obtain ⟨y, hy, rfl⟩ := List.mem_map.mp hp
      exact ⟨(h3 y hy).1, (dbl_ok ho (h3 y hy).2 (a y hy)).1⟩
    · obtain ⟨y, hy, rfl⟩ := List.mem_map.mp hp
      exact (dbl_ok ho (h3 y hy).2 (a y hy)).2
theorem dbl_par {odd : Int} (ho : odd = 0 ∨ odd = 1) : ∀ {d : Nat} {t : Tr}, OkT d t → Tr.all (fun ks => ∀ x ∈ ks, x % 2 = odd) d (dblT odd d t)
  | d, .leaf ks, h => by
    rw [dblT_leaf]
    refine all_leaf.mpr fun k hk => ?_
    obtain ⟨x, hx, rfl⟩ := List.mem_map.mp hk
    rcases ho with rfl | rfl <;> omega
  | 0, .node _, h => h.elim
  | d + 1, .node ps, h => fun y hy => by
    obtain ⟨z, hz, rfl⟩ := List.mem_map.mp hy
    exact dbl_par ho (h.2.2 z hz).2
theorem srtI_mem {ks : List Int} {x : Int} : x ∈ srtI ks ↔ x ∈ ks := (List.mergeSort_perm ks _).mem_iff
theorem gonL_ok {s : Int} (s1 : 1 ≤ s) (s5 : s ≤ 5) {ks : List Int} {d : Nat} (h : OkT 0 (.leaf ks)) (l : ks.length ≤ 6) : OkT (d + 1) (gonL s ks) := by
  have hb := (okT_leaf h).2
  unfold gonL
  split
  · refine ⟨?_, fun k hk => ?_⟩
    · rw [List.length_append, srtI_len, List.length_singleton]; omega
    · rcases List.mem_append.mp hk with hk | hk
      · exact hb k (srtI_mem.mp hk)
      · rw [List.mem_singleton.mp hk]; decide
  · refine ⟨(fun z => nomatch z), by show 3 ≤ 4; decide, fun p hp => ?_⟩
    have l8 : ∀ {ks : List Int}, ks.length ≤ 6 → (∀ k ∈ ks, 0 ≤ k ∧ k < 100) → OkT d (.leaf ks) := okT_mk
    simp only [List.mem_cons, List.mem_nil_iff, or_false] at hp
    rcases hp with rfl | rfl | rfl
    · exact ⟨⟨by decide, by decide⟩, l8 (by decide) (fun _ z => nomatch z)⟩
    · refine ⟨⟨s1, by show s ≤ _; omega⟩, l8 (by show 1 ≤ 6; decide) fun k hk => ?_⟩
      have hk : k ∈ [97] := hk
      rw [List.mem_singleton.mp hk]
      decide
    · exact ⟨⟨by show (1 : Int) ≤ 2; decide, by show (2 : Int) ≤ 1000000000; decide⟩, l8 (by rw [srtI_len]; exact l) fun k hk => hb k (srtI_mem.mp hk)⟩
theorem gonT_ok {s : Int} (s1 : 1 ≤ s) (s5 : s ≤ 5) : ∀ {d : Nat} {t : Tr}, OkT d t → Al6 d t → OkT (d + 1) (gonT s d t)
  | d, .leaf ks, h, a => by rw [gonT_leaf]; exact gonL_ok s1 s5 (okT_leaf h) (al6_leaf.mp a)
  | 0, .node _, h, _ => h.elim
  | d + 1, .node ps, h, a => by
    obtain ⟨h1, h2, h3⟩ := h
    refine ⟨fun z => h1 (List.map_eq_nil_iff.mp z), by rw [List.length_map]; exact h2, fun p hp => ?_⟩
    obtain ⟨y, hy, rfl⟩ := List.mem_map.mp hp
    exact ⟨(h3 y hy).1, gonT_ok s1 s5 (h3 y hy).2 (a y hy)⟩
theorem gonL_srt {s : Int} {ks : List Int} : gonL s (srtI ks) = gonL s ks := by unfold gonL; rw [srtI_idem, srtI_len]
theorem gonL_one {s : Int} {ks : List Int} {d : Nat} : srtT (d + 1) (gonL s ks) = srtT 1 (gonL s ks) := by
  unfold gonL
  split
  · rw [srtT_leaf, srtT_leaf]
  · show Tr.node _ = Tr.node _
    simp only [List.map, srtT_leaf]
theorem gon_bind {s : Int} : ∀ {d : Nat} {t : Tr}, OkT d t → Tr.bind (fun ks => srtT 1 (gonL s ks)) d (srtT d t) = srtT (d + 1) (gonT s d t)
  | d, .leaf ks, _ => by
    rw [srtT_leaf, bind_leaf, gonT_leaf, gonL_srt]
    exact gonL_one.symm
  | 0, .node _, h => h.elim
  | d + 1, .node ps, h => by
    show Tr.node ((ps.map fun y => (y.1, srtT d y.2)).map fun y => (y.1, Tr.bind (fun ks => srtT 1 (gonL s ks)) d y.2)) = Tr.node ((ps.map fun y => (y.1, gonT s d y.2)).map fun y => (y.1, srtT (d + 1) y.2))
    rw [List.map_map, List.map_map]
    congr 1
    refine List.map_congr_left fun y hy => ?_
    show (y.1, Tr.bind (fun ks => srtT 1 (gonL s ks)) d (srtT d y.2)) = (y.1, srtT (d + 1) (gonT s d y.2))
    rw [gon_bind (h.2.2 y hy).2]
theorem walk_ok {d : Nat} {t : Tr} (h : OkT d t) (hd : d ≤ 4) : WalkOk d t where
  ok := h
  d5 := by omega
  b := by
    refine Int.le_trans (okT_dn h) ?_
    match d, hd with
    | 0, _ => decide +kernel
    | 1, _ => decide +kernel
    | 2, _ => decide +kernel
    | 3, _ => decide +kernel
    | 4, _ => decide +kernel
  l := by
    refine Nat.le_trans (okT_len h) ?_
    match d, hd with
    | 0, _ => decide
    | 1, _ => decide
    | 2, _ => decide
    | 3, _ => decide
    | 4, _ => decide
theorem ways_par {odd : Int} (ho : odd = 0 ∨ odd = 1) {d : Nat} {t : Tr} (h : OkT d t) (a : Al6 d t) : ∀ z ∈ waysQ d (srtT d (dblT odd d t)) 1, ParK odd z.1 ∧ z.1.length ≤ 20 := by
  have k1 := dbl_par ho h
  have k2 := al6_all (dbl_ok ho h a).2
  refine ways_all (A := fun ks => ParK odd ks ∧ ks.length ≤ 20) (all_srt (all_imp (fun ks h => ?_) (all_and k1 k2)))
  exact ⟨⟨srtI_idem ks, fun x hx => h.1 x (srtI_mem.mp hx)⟩, by rw [srtI_len]; omega⟩
/-- the function that goes on -/
theorem go_goes {s : Int} (s1 : 1 ≤ s) (s5 : s ≤ 5) {f : Addr} {H H' : Hp} (hT : Tb K mg H) (ev : Eg K mg No H H') (L : LamAt__law_go_l0 K mg [.int s] f H H') {W : Addr → Prop} {j : Nat} (hj : 30 ≤ j) : Goes K mg j W f H' (fun ks => OkT 0 (.leaf ks) ∧ ks.length ≤ 6) 1 (fun ks => srtT 1 (gonL s ks)) := by
  intro W' H2 v e tb
  refine ⟨LamN.fn (LamN.ew L e (.inl rfl)), fun ks p2 hl hp2 Q' q' => ?_⟩
  intro P w base T
  refine (LamN.run (LamN.ew L e (.inl rfl)) (c__law_go_l0 T) tb ((ev.no (W := W')).trans e) (.inl rfl) fun Hd Q2 ed tbd sub keep hq => ?_).le (by omega)
  have lsd : ∀ b, W' b → ∃ xs, Hd b = some (.lst xs) := fun b hb => by
    obtain ⟨xs, hx⟩ := v.lst b hb
    exact ⟨xs, keep _ _ hx fun _ z => nomatch z⟩
  exact ⟨W', ks, .of (keep _ _ hp2 fun _ z => nomatch z), hl.1, gonL_ok s1 s5 hl.1 hl.2, lsd, tbd, fun x H4 e4 ht => hq x H4 fun H5 s5 eb => q' x H5 (eb e4) ((ht.le hj (Nat.le_refl _)).ew (vol_same (goes_same (H1 := Hd) (goes_same (H1 := Hd) lsd e4) (.same s5 : Eg K mg No H4 H5))) (.same s5))⟩
def sp_law (K : PySem.W.Frag) (mg : Str → Option Value) : Sp := fun vs H Q _ => match vs with | [.ref a] => ∃ ns : List Int, SqL K H a (ns.map V.int) ∧ ns.length ≤ 63 ∧ (∀ z ∈ ns, Builtin.Int.intBits z ≤ 1048576) ∧ Tb K mg H ∧ ∀ H', Q (.bl true) H' | _ => False
theorem q_law {H : Hp} {Q : VK} {E : XK} {a : Addr} (q : ∃ ns : List Int, SqL K H a (ns.map V.int) ∧ ns.length ≤ 63 ∧ (∀ z ∈ ns, Builtin.Int.intBits z ≤ 1048576) ∧ Tb K mg H ∧ ∀ H', Q (.bl true) H') : sp_law K mg [.ref a] H Q E := q
local macro_rules | `(tactic| walk_at "op") => `(tactic| with_reducible refine q_law ?_)
theorem c_law (T : Txt K mg base) {f : Addr} {fd : FuncData} (F : Fun K "law" "law" s_law f fd) : FnOk P w K mg base CX0 104 f fd ["_law_script"] (sp_law K mg) := by
  refine F.ok (k := 103) sc_law (by intro vs H Q E h; unfold sp_law at h; split at h <;> first | rfl | exact h.elim) fun cdv A outer s H vs Q E hr h => ?_
  refine ⟨_, (pss_cons (ps_set (i := 1) sc_law.nd rfl (.inl rfl) (pe_c (c__law_doubled T) hr (by decide) (by rfl) (pa_cons (pe_c (c__law_tree T) hr (by decide) (by rfl) (pa_cons (pe_c (c__law_digits T) hr (by decide) (by rfl) (pa_cons (pe_c (c__law_cell T) hr (by decide) (by rfl) (pa_cons (pv 0) (pa_cons pe_int pa_nil))) pa_nil)) (pa_cons pe_int pa_nil))) (pa_cons pe_int pa_nil))))
    (pss_cons (ps_set (i := 2) sc_law.nd rfl (.inl rfl) (pe_c (c__law_doubled T) hr (by decide) (by rfl) (pa_cons (pe_c (c__law_tree T) hr (by decide) (by rfl) (pa_cons (pe_c (c__law_digits T) hr (by decide) (by rfl) (pa_cons (pe_c (c__law_cell T) hr (by decide) (by rfl) (pa_cons (pv 0) (pa_cons pe_int pa_nil))) pa_nil)) (pa_cons pe_int pa_nil))) (pa_cons pe_int pa_nil))))
    (pss_cons (ps_set (i := 3) sc_law.nd rfl (.inl rfl) (pe_c (c_both T (52)) hr (by decide) (by rfl) (pa_cons (pe_c (c__law_node T) hr (by decide) (by rfl) (pa_cons (pv 1) pa_nil)) (pa_cons (pe_c (c__law_node T) hr (by decide) (by rfl) (pa_cons (pv 2) pa_nil)) pa_nil))))
    (pss_cons (ps_if (pt_cmpR (op_neA hr) (pe_xS (c_table T) hr (by decide) (by rfl) (fun σ => passN σ) (pa_cons (pv 3) pa_nil)) (pe_c (c__law_both T) hr (by decide) (by rfl) (pa_cons (pv 1) (pa_cons (pv 2) pa_nil))) (nomark _))
    (pss_one (ps_ret pe_bl))
    pss_nil)
    (pss_cons (ps_for PassesOwn.never rfl (pi_list (pe_op op_addA (pe_slice sl_list (pv 0) (po_some pe_int) (po_some pe_int)) (pe_lst (pa_cons pe_int pa_nil)))) (pg_name (i := 4) sc_law.nd rfl (.inl rfl))
    (pss_cons (ps_set (i := 5) sc_law.nd rfl (.inl rfl) (pe_c (c__law_digits T) hr (by decide) (by rfl) (pa_cons (pv 4) pa_nil)))
    (pss_cons (ps_asg (pe_c (c__law_way T) hr (by decide) (by rfl) (pa_cons (pv 1) (pa_cons (pv 5) pa_nil))) (pg_tup rfl (pgs_cons (pg_name (i := 6) sc_law.nd rfl (.inl rfl)) (pgs_cons (pg_name (i := 7) sc_law.nd rfl (.inl rfl)) pgs_nil))))
    (pss_cons (ps_asg (pe_c (c__law_way T) hr (by decide) (by rfl) (pa_cons (pv 2) (pa_cons (pv 5) pa_nil))) (pg_tup rfl (pgs_cons (pg_name (i := 8) sc_law.nd rfl (.inl rfl)) (pgs_cons (pg_name (i := 9) sc_law.nd rfl (.inl rfl)) pgs_nil))))
    (pss_one (ps_if (pt_cmpR (op_neA hr) (pe_xS (c_drawn T (60)) hr (by decide) (by rfl) (fun σ => passN σ) (pa_cons (pv 3) (pa_cons (pe_op op_addA (pv 6) (pv 8)) pa_nil))) (pe_callTy call_tuple1A (by rfl) T.n_tuple (by decide +kernel) (pa_cons (pe_callB cr_sortedQ (by rfl) T.n_sorted (by decide +kernel) (pa_cons (pe_op op_addA (pv 7) (pv 9)) pa_nil)) pa_nil)) (nomark _))
    (pss_one (ps_ret pe_bl))
    pss_nil))))))
    (pss_cons (ps_set (i := 10) sc_law.nd rfl (.inl rfl) (pe_op op_addA pe_int (pe_op op_mod (pe_c (c__law_cell T) hr (by decide) (by rfl) (pa_cons (pv 0) (pa_cons pe_int pa_nil))) pe_int)))
    (pss_cons (ps_set (i := 11) sc_law.nd rfl (.inl rfl) (pe_callB (cr_sortedII rfl hr.units) (by rfl) T.n_sorted (by decide +kernel) (pa_cons (pe_bm0 PySem.F.plainAttrs_dict PySem.F.slot_dict_items PySem.F.type_dict_items L2.DX.mt_itemsT (pe_c (c__law_walk T) hr (by decide) (by rfl) (pa_cons (pe_c (c__law_gone_on T) hr (by decide) (by rfl) (pa_cons (pv 1) (pa_cons (pv 10) pa_nil))) (pa_cons (pe_tup (pa_cons pe_int (pa_cons pe_int pa_nil))) (pa_cons pe_dnewT pa_nil))))) pa_nil)))
    (pss_one (ps_ret (pe_cmpR (op_eqA hr) (pe_xS (c_table T) hr (by decide) (by rfl) (fun σ => passN σ) (pa_cons (pe_c (c_behind T (50)) hr (by decide) (by rfl) (pa_cons (pe_c (c__law_node T) hr (by decide) (by rfl) (pa_cons (pv 1) pa_nil)) (pa_cons (pe_c (c__law_go T) hr (by decide) (by rfl) (pa_cons (pv 10) pa_nil)) pa_nil))) pa_nil)) (pv 11) (nomark _))))))))))), ?_⟩
  try simp only [cxOf_K, cxOf_K', cxOf_mg, cxOf_mg']
  unfold sp_law at h
  split at h
  case h_2 => exact h.elim
  rename_i a
  rw [show L2.start ["_law_script", "_law_one", "_law_other", "_law_node_here", "_law_cell_here", "_law_state", "_law_first", "_law_kept_here", "_law_second", "_law_more", "_law_sides", "_law_due"] [V.ref a] = [some (V.ref a), none, none, none, none, none, none, none, none, none, none, none] from rfl]
  obtain ⟨ns, hS, hl, hbits, hT, q⟩ := h
  walk_at "sts"
  refine ⟨ns, hS, by decide, by decide, ?_⟩
  walk_at "sts"
  refine fun n0 p0 H0 hp0 s0 e0 => ?_
  walk_at "sts"
  refine q_tree ⟨n0, 3, rfl, by decide, e0, fun t n1 v H1 hok htv b1 e1 => ?_⟩
  have s1 : Same H H1 := same_butN s0 hp0 b1
  have htv1 := treeV_same htv rs_sub
  walk_at "sts"
  refine ⟨3, t, by decide, .inl rfl, htv1, hok.1, fun v1 H2 s2 hv1 => ?_⟩
  have s02 := s1.trans s2
  walk_at "sts"
  refine ⟨ns, s02.seq hS, by decide, by decide, ?_⟩
  walk_at "sts"
  refine fun n3 p3 H3 hp3 s3 e3 => ?_
  walk_at "sts"
  refine q_tree ⟨n3, 2, rfl, by decide, e3, fun u n4 v4 H4 hok2 htv2 b4 e4 => ?_⟩
  have s24 : Same H2 H4 := same_butN s3 hp3 b4
  have htv4 := treeV_same htv2 rs_sub
  walk_at "sts"
  refine ⟨2, u, by decide, .inr rfl, htv4, hok2.1, fun v2 H5 s5 hv2 => ?_⟩
  have okA := dbl_ok (.inl rfl) hok.1 hok.2
  have okB := dbl_ok (.inr rfl) hok2.1 hok2.2
  have parA := ways_par (.inl rfl) hok.1 hok.2
  have parB := ways_par (.inr rfl) hok2.1 hok2.2
  have hv15 := treeV_same (treeV_same hv1 rs_sub) (s24.trans s5)
  have hv25 := treeV_same hv2 rs_sub
  generalize dblT 0 3 t = A at *
  generalize dblT 1 2 u = B at *
  have sH5 : Same H H5 := s02.trans (s24.trans s5)
  have hS5 := sH5.seq hS
  have hT5 : Tb K mg H5 := (Ew.same sH5 : Eg K mg No _ _).tb hT
  clear hv1 hv2 htv htv1 htv2 htv4 b1 b4 e0 e1 e3 e4 s0 s1 s2 s3 s5 s24 s02 hp0 hp3 hok hok2
  walk_at "sts"
  refine ⟨No, 3, A, treeV_same hv15 (fun b o h => rs_at (fun z => z) h), okA.1, hT5, fun x H6 ev6 hx => ?_⟩
  have nx6 := lawAt_node 3 hx ev6
  have hv26 : TreeV K H6 2 B v2 := treeV_gen (fun _ _ => ev6.seq0) (fun _ _ => ev6.seqT) 2 B v2 hv25
  walk_at "sts"
  refine ⟨No, 2, B, treeV_same hv26 (fun b o h => rs_at (fun z => z) h), okB.1, ev6.tb hT5, fun y H7 ev7 hy => ?_⟩
  have ny7 := lawAt_node 2 hy ev7
  have lno : ∀ {H H' : Hp}, Vol No No H H' := fun {H H'} => ⟨fun _ z => z, fun _ z => .inl z, fun _ z => z.elim⟩
  have nx7 := nx6.ew lno ev7
  obtain ⟨ay, dxy, py, rfl, _⟩ := at_told ny7
  walk_at "sts"
  refine ⟨3, 2, No, srtT 3 A, srtT 2 B, nx7.le (by decide) (Nat.le_refl _), ny7.le (by decide) (Nat.le_refl _), by decide, ev7.tb (ev6.tb hT5), (fun _ z => z.elim), ?_, fun z H8 ev8 hz => ?_⟩
  · refine all_imp (fun xs h1 => all_imp (fun ys h2 => ?_) (al6_all (al6_srt okB.2))) (al6_all (al6_srt okA.2))
    omega
  have owA := okT_okW (okT_srt okA.1)
  have owB := okT_okW (okT_srt okB.1)
  have wb : waysQ (3 + 2) _ 1 = prodW (waysQ 3 (srtT 3 A) 1) (waysQ 2 (srtT 2 B) 1) := ways_both owA owB
  have dA : dnT 3 (srtT 3 A) ≤ 2 ^ 672 := okT_dn (okT_srt okA.1)
  have dB : dnT 2 (srtT 2 B) ≤ 2 ^ 160 := okT_dn (okT_srt okB.1)
  have pA := dnT_pos owA
  have pB := dnT_pos owB
  have lwA : (waysQ 3 (srtT 3 A) 1).length ≤ 64 := okT_len (okT_srt okA.1)
  have lwB : (waysQ 2 (srtT 2 B) 1).length ≤ 16 := okT_len (okT_srt okB.1)
  have okz : OkW (3 + 2) (Tr.bind (fun xs => Tr.bind (fun ys => .leaf (srtI (xs ++ ys))) 2 (srtT 2 B)) 3 (srtT 3 A)) := okW_bind (e := 2) (fun xs => okW_bind (e := 0) (fun _ => okW_lf) owB) owA
  have run : ∀ {ts ks us ms : List Int}, Way A ts ks → Way B us ms → ∀ i, runT (Tr.bind (fun xs => Tr.bind (fun ys => .leaf (srtI (xs ++ ys))) 2 (srtT 2 B)) 3 (srtT 3 A)) ((ts ++ us).map V.int) i = .inl (srtI (srtI ks ++ srtI ms)) := fun {ts ks us ms} h1 h2 => by
    have w2 := way_bind (gt := fun ys => .leaf (srtI (srtI ks ++ ys))) (way_srt h2 okB.1) (.leaf _) (al6_all (al6_srt okB.2))
    rw [List.append_nil] at w2
    exact (way_bind (gt := fun xs => Tr.bind (fun ys => .leaf (srtI (xs ++ ys))) 2 (srtT 2 B)) (way_srt h1 okA.1) w2 (al6_all (al6_srt okA.2))).run
  generalize Tr.bind (fun xs => Tr.bind (fun ys => .leaf (srtI (xs ++ ys))) 2 (srtT 2 B)) 3 (srtT 3 A) = Z at *
  have ev58 : Eg K mg No H5 H8 := ev6.trans (ev7.trans ev8)
  have tr8 : ∀ {d : Nat} {t : Tr} {v : V} {H' : Hp}, TreeV K H5 d t v → Eg K mg No H5 H' → TreeV K H' d t v := fun h ev => treeV_gen (fun _ _ => ev.seq0) (fun _ _ => ev.seqT) _ _ _ h
  walk_at "sts"
  refine ⟨5, No, Z, dnT 3 (srtT 3 A) * dnT 2 (srtT 2 B), by decide, hz, (fun _ z => z.elim), ev58.tb hT5, okz, Int.mul_pos pA pB, Int.le_trans (Int.mul_le_mul dA dB (Int.le_of_lt pB) (Int.pow_nonneg (by decide))) (by decide +kernel), fun w hw => ?_, fun hc rp H9 us S hrp ev9 e9 hS9 hP9 => ?_, fun hc => ?_⟩
  · rw [show waysQ 5 Z 1 = _ from wb] at hw
    obtain ⟨a, ha, hw⟩ := List.mem_flatMap.mp hw
    obtain ⟨b, hb, rfl⟩ := List.mem_map.mp hw
    have i1 := ((good_ways owA).p a ha).2
    have i2 := ((good_ways owB).p b hb).2
    rw [Rat.intCast_mul, show a.2 * b.2 * ((dnT 3 (srtT 3 A) : Rat) * (dnT 2 (srtT 2 B) : Rat)) = a.2 * (dnT 3 (srtT 3 A) : Rat) * (b.2 * (dnT 2 (srtT 2 B) : Rat)) by grind]
    exact isI_mul i1 i2
  case refine_3 =>
    exfalso
    rw [show waysQ 5 Z 1 = _ from wb, prod_len] at hc
    have := Nat.mul_le_mul lwA lwB
    omega
  have ev59 := ev58.trans ev9
  rw [show waysQ 5 Z 1 = _ from wb] at hS9
  walk_at "sts"
  refine ⟨3, 2, A, B, walk_ok okA.1 (by decide), walk_ok okB.1 (by decide), tr8 hv15 ev59, tr8 hv25 ev59, parA, parB, fun p10 H10 us2 S2 hp10 s10 e10 hS10 hP10 => ?_⟩
  cases srt_uniq (rows_nd _) hS9 ⟨hS10.p.trans (prod_perm (fun a h => (parA a h).1) fun b h => (parB b h).1), hS10.s⟩
  walk_at "sts"
  refine L_neR (d := .list (S.map dW)) (.lst (.of (s10 _ _ e9)) (dW_dp (paired_imp2 (fun _ _ h => WayQ.ew h (.same s10 : Eg K mg No _ _)) hP9))) (.lst (.of e10) (dW_dp hP10)) (shp_lst (n := 2) (shp_map fun w _ => shp_tup (n := 1) (shp_cons (shp_tup (n := 0) (shp_map fun _ _ => shp_int)) (shp_cons (shp_tup (n := 0) (shp_cons shp_int (shp_cons shp_int shp_nil))) shp_nil)))).ok ?_
  have ev510 : Eg K mg No H5 H10 := ev59.trans (.same s10)
  have hz10 : NodeAt K mg 60 5 No Z z H10 := hz.ew lno (ev9.trans (.same s10))
  clear hP9 hP10 e9 e10 s10 hS9 hS10 ev9 ev8 ev7 ev6 nx7 ny7 nx6 hx hy hz
  walk_at "sts"
  refine L_slL (ev510.seq0 hS5) fun p11 hp11 => ?_
  have s11 := same_new (o := .lst (cutV (ns.map V.int) (some 2) (some 63))) hp11
  have e11 : upd H10 p11 (.lst (cutV (ns.map V.int) (some 2) (some 63))) p11 = some (.lst ((cutG ns (some 2) (some 63)).map V.int)) := by rw [← cutV_map]; exact upd_same
  generalize upd H10 p11 (.lst (cutV (ns.map V.int) (some 2) (some 63))) = H11 at s11 e11 ⊢
  walk_at "sts"
  walk_at "nw"
  rename_i p12 hp12 H12 s12 e12
  have cl := cutG_len ns (some 2) (some 63)
  refine L_addL (s12 _ _ e11) e12 (sz_dec (by rw [List.length_map, List.length_singleton]; omega)) fun p13 hp13 => ?_
  have s13 := same_new (o := .lst ((cutG ns (some 2) (some 63)).map V.int ++ [.int 4])) hp13
  have e13 : upd H12 p13 (.lst ((cutG ns (some 2) (some 63)).map V.int ++ [.int 4])) p13 = some (.lst ((cutG ns (some 2) (some 63) ++ [4]).map V.int)) := by rw [List.map_append]; exact upd_same
  generalize upd H12 p13 (.lst ((cutG ns (some 2) (some 63)).map V.int ++ [.int 4])) = H13 at s13 e13 ⊢
  have s1013 := s11.trans (s12.trans s13)
  have ev513 : Eg K mg No H5 H13 := ev510.trans (.same s1013)
  have hz13 : NodeAt K mg 60 5 No Z z H13 := hz10.ew lno (.same s1013)
  generalize (cutG ns (some 2) (some 63) ++ [4]) = cs at *
  refine L_rl (.of e13) ?_
  refine f_it walk_list (fun i σ' H' => ∃ (v4 v5 v6 v7 v8 v9 : Option V), σ' = [some (.ref a), some v1, some v2, some z, v4, v5, v6, v7, v8, v9, none, none] ∧ Eg K mg No H13 H') ⟨_, _, _, _, _, _, rfl, .refl⟩ (fun _ _ _ _ ⟨_, _, _, _, _, _, _, e⟩ => .of (e.lst0 e13)) ?_ ?_
  · rintro i x σ' Hy H14 hi ⟨v4, v5, v6, v7, v8, v9, rfl, ev14⟩ ⟨rfl, hx⟩
    rw [List.getElem?_map] at hx
    obtain ⟨c, hc, rfl⟩ := Option.map_eq_some_iff.mp hx
    have ev514 := ev513.trans ev14
    walk_at "sts"
    refine fun n5 p5 H15 hp5 s15 e15 => ?_
    have ev515 := ev514.trans (.same s15)
    walk_at "sts"
    refine ⟨n5, 3, A, e15, treeV_same (tr8 hv15 ev514) (fun b o h => rs_at (fun z => by rw [z, hp5] at h; cases h) (s15 _ _ h)), okA.1, by decide, fun ts ks n6 ta tb tc H16 hw1 l1 nb b16 f16 ea eb ec => ?_⟩
    have s16 : Same H14 H16 := same_butN s15 hp5 b16
    have np5 : ∀ {x o}, H15 x = none → H16 x = some o → x ≠ p5 := fun {x o} h1 h2 z => by rw [z, e15] at h1; cases h1
    refine L_gTup (.of ea) rfl ?_
    walk_at "sts"
    refine ⟨n6, 2, B, f16, treeV_same (tr8 hv25 ev514) (fun b o h => rs_at (fun z => by rw [z, hp5] at h; cases h) (s16 _ _ h)), okB.1, by decide, fun us ms n7 ua ub uc H17 hw2 l2 nub b17 f17 fa fb fc => ?_⟩
    have s17 : Same H14 H17 := fun x o h => b17 x o (s16 _ _ h) fun z => by rw [z, hp5] at h; cases h
    have eb17 := b17 _ _ eb (np5 nb eb)
    have ec17 := b17 _ _ ec fun z => by rw [z, f16] at ec; cases ec
    refine L_gTup (.of fa) rfl ?_
    walk_at "sts"
    refine L_addL eb17 fb (sz_dec (by rw [List.length_map, List.length_map]; omega)) fun p6 hp6 => ?_
    have s18 := same_new (o := .lst (ts.map V.int ++ us.map V.int)) hp6
    have e18 : upd H17 p6 (.lst (ts.map V.int ++ us.map V.int)) p6 = some (.lst ((ts ++ us).map V.int)) := by rw [List.map_append]; exact upd_same
    generalize upd H17 p6 (.lst (ts.map V.int ++ us.map V.int)) = H18 at s18 e18 ⊢
    have ev518 : Eg K mg No H5 H18 := ev514.trans (.same (s17.trans s18))
    walk_at "sts"
    refine ⟨5, No, Z, (ts ++ us).map V.int, hz13.ew lno (ev14.trans (.same (s17.trans s18))), (fun _ z => z.elim), .of e18, by rw [List.length_map, List.length_append]; omega, fun th hth => ?_, ev518.tb hT5, fun kk w pw H19 hr ev19 hw hpw => ?_, fun k hr => ?_⟩
    · obtain ⟨x, _, rfl⟩ := List.mem_map.mp hth
      exact .inl ⟨x, rfl⟩
    case refine_3 =>
      rw [run hw1 hw2] at hr
      cases hr
    rw [run hw1 hw2] at hr
    cases hr
    subst hw
    have ec19 := ev19.tup (s18 _ _ ec17)
    have fc19 := ev19.tup (s18 _ _ fc)
    have lk : ks.length ≤ 6 := way_all hw1 (al6_all okA.2)
    have lm : ms.length ≤ 6 := way_all hw2 (al6_all okB.2)
    walk_at "sts"
    refine .inr (.inr (.inr (L_cat3 (xs := srtI ks) (ys := srtI ms) (.of ec19) (.of fc19) (by rw [srtI_len, srtI_len]; omega) fun r0 H20 s20 hr0 => ?_)))
    walk_at "sts"
    refine ⟨r0, _, rfl, .inr hr0, fun ns p3 hp3 hs hn1 => ?_⟩
    cases srtI_eq hp3 hs
    walk_at "sts"
    refine L_tuple1 (.of upd_same) fun l hl2 => ?_
    have s21 := (same_new (o := .lst ((srtI (srtI ks ++ srtI ms)).map V.int)) hn1).trans (same_new (o := .tup ((srtI (srtI ks ++ srtI ms)).map V.int)) hl2)
    have s1921 := s20.trans s21
    walk_at "sts"
    refine L_neR (d := .tuple ((srtI (srtI ks ++ srtI ms)).map .int)) (.tup (.of (s1921 _ _ hpw)) (dp_ints _)) (.tup (.of upd_same) (dp_ints _)) (shp_tup (n := 0) (shp_map fun _ _ => shp_int)).ok ?_
    walk_at "sts"
    exact ⟨_, _, _, _, _, _, rfl, ev14.trans ((Ew.same (s17.trans s18)).trans (ev19.trans (.same s1921)))⟩
  · rintro σ' H14 ⟨v4, v5, v6, v7, v8, v9, rfl, ev14⟩
    have ev514 := ev513.trans ev14
    walk_at "sts"
    refine ⟨ns, ev514.seq0 hS5, by decide, by decide, ?_⟩
    walk_at "sts"
    refine L_I (by decide) ?_
    walk_at "sts"
    have r0 := Int.emod_nonneg (cellAt ns 2 (7919 * 2 + 13)) (show (5 : Int) ≠ 0 by decide)
    have r1 := Int.emod_lt_of_pos (cellAt ns 2 (7919 * 2 + 13)) (show (0 : Int) < 5 by decide)
    generalize hs : 1 + cellAt ns 2 (7919 * 2 + 13) % 5 = sd
    have sd1 : 1 ≤ sd := by omega
    have sd5 : sd ≤ 5 := by omega
    have okG := gonT_ok sd1 sd5 okA.1 okA.2
    have eG := gon_bind (s := sd) okA.1
    refine ⟨3, A, by decide, tr8 hv15 ev514, okA.1, fun w H15 s15 hw => ?_⟩
    have hw15 := treeV_same hw rs_sub
    walk_at "sts"
    walk_at "nw"
    rename_i mu hmu H16 s16 e16
    walk_at "sts"
    walk_at "nwp"
    rename_i dd hdd H17 s17 e17
    walk_at "sts"
    refine q_walk (walk_ok okG (by decide)) (treeV_same hw15 (s16.trans s17)) (s17 _ _ e16) e17 fun H18 kvs b18 e18 p18 kl18 => ?_
    have s1618 : Same H16 H18 := same_bdtN s17 hdd b18
    have okS := okT_okW (okT_srt okG)
    have gS := good_ways okS
    have nd := good_nd gS
    have dS : dnT 4 (srtT 4 (gonT sd 3 A)) ≤ 2 ^ 2720 := okT_dn (okT_srt okG)
    have pS := dnT_pos okS
    have lS : (waysQ 4 (srtT 4 (gonT sd 3 A)) 1).length ≤ 256 := okT_len (okT_srt okG)
    generalize hY : srtT (3 + 1) (gonT sd 3 A) = Y at *
    obtain ⟨kk, rfl, hkk⟩ := rtn_ks p18
    have klk := Paired.length hkk
    rw [List.length_map] at kl18
    walk_at "sts"
    refine L_itemsD e18 ?_
    intro p7 hp7
    have s7 : Same H18 (upd H18 p7 (DX.itemsO p7 dd)) := same_new hp7
    have e7 : (upd H18 p7 (DX.itemsO p7 dd)) p7 = some (DX.itemsO p7 dd) := upd_same
    have f7 := s7 _ _ e18
    generalize upd H18 p7 (DX.itemsO p7 dd) = H19 at s7 e7 f7 ⊢
    walk_at "sts"
    refine L_sortII (M := fun k => [Sum.inl (qt (lookW (rowsW (waysQ 4 Y 1)) k)).1, Sum.inl (qt (lookW (rowsW (waysQ 4 Y 1)) k)).2]) e7 f7 (by omega) (fun e he => ?_) ?_
    · obtain ⟨b, hb, e1, e2⟩ := paired_memL hkk he
      rw [e1, look_mem nd hb]
      exact s7 _ _ e2
    intro H20 rp ps8 s8 g8 hrp hperm hsrt e20 hpr
    obtain ⟨hSr, hM⟩ := srt_ps nd hkk hperm hsrt
    have hPr : Paired (WayQ K H20) (ps8.map fun z => V.ref z.1) (ps8.map fun z => (z.2.1, lookW (rowsW (waysQ 4 Y 1)) z.2.1)) := paired_self fun z hz => by
      obtain ⟨q, a1, a2⟩ := hpr z hz
      exact ⟨_, _, _, rfl, a1, a2, .of ((s7.trans s8) _ _ (hM z hz))⟩
    have s1420 : Same H14 H20 := s15.trans (s16.trans (s1618.trans (s7.trans s8)))
    have ev520 : Eg K mg No H5 H20 := ev514.trans (.same s1420)
    generalize (ps8.map fun z => (z.2.1, lookW (rowsW (waysQ 4 Y 1)) z.2.1)) = S2 at hSr hPr
    generalize (ps8.map fun z => V.ref z.1) = us2 at e20 hPr
    clear hpr hM hperm hsrt hkk p18 f7 e7 s7 s8 g8 hrp b18 e18 e17 e16 s17 s16 hw15 hw
    walk_at "sts"
    refine ⟨No, 3, A, treeV_same (tr8 hv15 ev520) (fun b o h => rs_at (fun z => z) h), okA.1, ev520.tb hT5, fun x H21 ev21 hx => ?_⟩
    have nx := lawAt_node 3 hx ev21
    walk_at "sts"
    refine ⟨ev21.tb (ev520.tb hT5), fun g H22 ev22 hg => ?_⟩
    have nx2 := nx.ew lno ev22
    walk_at "sts"
    refine behind_node (E := E0) (nx2.le (by decide) (Nat.le_refl _)) (ev22.tb (ev21.tb (ev520.tb hT5))) (fun _ z => z.elim) (go_goes sd1 sd5 (ev21.tb (ev520.tb hT5)) ev22 hg (by decide)) ?_ fun y H23 ev23 hy => ?_
    · refine all_srt (all_imp (fun ks h => ?_) (all_and (okT_all okA.1) (al6_all okA.2)))
      exact ⟨⟨by rw [srtI_len]; exact h.1.1, fun k hk => h.1.2 k (srtI_mem.mp hk)⟩, by rw [srtI_len]; exact h.2⟩
    rw [eG] at hy
    have ev523 := ev520.trans (ev21.trans (ev22.trans ev23))
    walk_at "sts"
    refine ⟨4, No, Y, dnT 4 Y, by decide, hy.le (by decide) (Nat.le_refl _), (fun _ z => z.elim), ev523.tb hT5, okS, pS, Int.le_trans dS (by decide +kernel), fun w hw => (gS.p w hw).2, fun hc rp2 H24 us3 S3 hrp2 ev24 e24 hS3 hP3 => ?_, fun hc => by omega⟩
    cases srt_uniq nd hS3 hSr
    walk_at "sts"
    have ev2024 : Eg K mg No H20 H24 := ev21.trans (ev22.trans (ev23.trans ev24))
    refine L_eqR (d := .list (S2.map dW)) (.lst (.of e24) (dW_dp hP3)) (.lst (.of (ev2024.lst0 e20)) (dW_dp (paired_imp2 (fun _ _ h => WayQ.ew h ev2024) hPr))) (shp_lst (n := 2) (shp_map fun w _ => shp_tup (n := 1) (shp_cons (shp_tup (n := 0) (shp_map fun _ _ => shp_int)) (shp_cons (shp_tup (n := 0) (shp_cons shp_int (shp_cons shp_int shp_nil))) shp_nil)))).ok ?_
    exact q _
end
theorem txt_mk {K : PySem.W.Frag} {h : Heap} {mg : Str → Option Value} {ts : List Addr} (X : K.In h) (G : h.Ns mainGlobals mg) (Y : ∀ P ∈ ts, h.get? P = some (PySem.W.tabObj #[]))
    {C_SpeakError : Addr} (aC_SpeakError : PySem.W.nsIn K mainGlobals "SpeakError" = some (some (.ref C_SpeakError)))
    (bi0_SpeakError : PySem.W.readsIn K C_SpeakError (.type "type") = true) (bi1_SpeakError : PySem.W.specialIn K (.ref C_SpeakError) "__getattribute__" = some (some (.builtin "type.__getattribute__"))) (bi2_SpeakError : PySem.W.findCls K (.ref C_SpeakError) (.type "type") "__init__" = some (.val (.builtin "ValueError.__init__")))
    {C_NoThrow : Addr} (aC_NoThrow : PySem.W.nsIn K mainGlobals "NoThrow" = some (some (.ref C_NoThrow)))
    (ox_NoThrow : ∃ nm q N bs bm sn sub ab col dd k0 k1 k2 k3 k5, K.lookup C_NoThrow = some (excClassObj nm q C_NoThrow N bs bm true sn sub ab col dd k0 k1 k2 k3 k5 "ValueError.__new__") ∧ PySem.HandSPX.refsVE bm = true) (o0_NoThrow : PySem.W.findIn K (.ref C_NoThrow) "__setattr__" = some (some (.builtin "object.__setattr__"))) (o1_NoThrow : PySem.W.subIn K (.ref C_NoThrow) (.type "BaseException") = some true) (o2_NoThrow : PySem.W.typeIn K (.ref C_NoThrow) = some (.type "type")) (o3_NoThrow : PySem.W.keepIn K (.ref C_NoThrow) = true)
    (na_NoThrow_place : PySem.W.findIn K (.ref C_NoThrow) "place" = some none)
    (z_n_sorted : PySem.W.nsIn K mainGlobals "sorted" = some none)
    (z_n_tuple : PySem.W.nsIn K mainGlobals "tuple" = some none)
    {C_Told : Addr} (aC_Told : PySem.W.nsIn K mainGlobals "Told" = some (some (.ref C_Told)))
    (pg_Told : PySem.W.plainGet K C_Told Str.empty = true) (hd_Told : PySem.W.hasDictIn K C_Told = true) (po_Told : PySem.W.plainOver K C_Told = true) (sa_Told : PySem.W.findIn K (.ref C_Told) "__setattr__" = some (some (.builtin "object.__setattr__"))) (mk_Told : PySem.W.makesIn K C_Told = true) (kc_Told : PySem.W.keepIn K (.ref C_Told) = true)
    (na_Told_places : PySem.W.findIn K (.ref C_Told) "places" = some none)
    {C_Die : Addr} (aC_Die : PySem.W.nsIn K mainGlobals "Die" = some (some (.ref C_Die)))
    (pg_Die : PySem.W.plainGet K C_Die Str.empty = true) (hd_Die : PySem.W.hasDictIn K C_Die = true) (po_Die : PySem.W.plainOver K C_Die = true) (sa_Die : PySem.W.findIn K (.ref C_Die) "__setattr__" = some (some (.builtin "object.__setattr__"))) (mk_Die : PySem.W.makesIn K C_Die = true) (kc_Die : PySem.W.keepIn K (.ref C_Die) = true)
    (na_Die_ways : PySem.W.findIn K (.ref C_Die) "ways" = some none)
    (z_n_bool : PySem.W.nsIn K mainGlobals "bool" = some none)
    (z_n_int : PySem.W.nsIn K mainGlobals "int" = some none)
    (z_n_isinstance : PySem.W.nsIn K mainGlobals "isinstance" = some none)
    (z_n_sum : PySem.W.nsIn K mainGlobals "sum" = some none)
    (z_n_enumerate : PySem.W.nsIn K mainGlobals "enumerate" = some none)
    (z_n_len : PySem.W.nsIn K mainGlobals "len" = some none)
    (yb_NoThrow : PySem.W.subIn K (.ref C_NoThrow) (.type "BaseException") = some true) (yi_NoThrow : PySem.W.isClsIn K C_NoThrow = true) (yt_NoThrow : PySem.W.typeIn K (.ref C_NoThrow) = some (.type "type"))
    (z_n_abs : PySem.W.nsIn K mainGlobals "abs" = some none)
    {u_g_MOST_WAYS : Value} (z_g_MOST_WAYS : PySem.W.nsIn K mainGlobals "MOST_WAYS" = some (some u_g_MOST_WAYS)) (y_g_MOST_WAYS : RelV (.int 4096) u_g_MOST_WAYS)
    {C_TooMany : Addr} (aC_TooMany : PySem.W.nsIn K mainGlobals "TooMany" = some (some (.ref C_TooMany)))
    (xx_TooMany : PySem.W.excIn K C_TooMany [.type "ValueError", .type "Exception", .type "BaseException", .type "object"] "ValueError.__new__" = true) (xk_TooMany : PySem.W.keepIn K (.ref C_TooMany) = true) (xb_TooMany : PySem.W.subIn K (.ref C_TooMany) (.type "BaseException") = some true) (xt_TooMany : PySem.W.typeIn K (.ref C_TooMany) = some (.type "type"))
    (z_n_list : PySem.W.nsIn K mainGlobals "list" = some none)
    (z_n_range : PySem.W.nsIn K mainGlobals "range" = some none)
    (z0_NoThrow : PySem.W.findIn K (.ref C_NoThrow) "__getattribute__" = some (some (.builtin "BaseException.__getattribute__"))) (z1_NoThrow : PySem.W.findIn K (.ref C_NoThrow) "__getattr__" = some none) (z2_NoThrow : PySem.W.subIn K (.ref C_NoThrow) (.type "BaseException") = some true) (z3_NoThrow : PySem.W.hasDictIn K C_NoThrow = true) (z4_NoThrow : PySem.W.findIn K (.ref C_NoThrow) "__class__" = some (some (.builtin "object.__class__"))) (z5_NoThrow : PySem.W.specialIn K (.builtin "object.__class__") "__get__" = some (some (.builtin "getset_descriptor.__get__"))) (z6_NoThrow : PySem.W.takesIn K (.builtin "object.__class__") = some true) (z7_NoThrow : PySem.W.mroIn K C_NoThrow (.type "object") = some true)
    (es_NoThrow_NoThrow : PySem.W.subIn K (.ref C_NoThrow) (.ref C_NoThrow) = some true)
    (yb_TooMany : PySem.W.subIn K (.ref C_TooMany) (.type "BaseException") = some true) (yi_TooMany : PySem.W.isClsIn K C_TooMany = true) (yt_TooMany : PySem.W.typeIn K (.ref C_TooMany) = some (.type "type"))
    {f_NoThrow___init__ : Addr} {od_NoThrow___init__ an_NoThrow___init__ : Option Addr} {sl_NoThrow___init__ : Array (Option Value)} {oc_NoThrow___init__ kV_NoThrow___init__ dc_NoThrow___init__ pm_NoThrow___init__ cd_NoThrow___init__ ct_NoThrow___init__ : Value}
    (a_NoThrow___init__ : PySem.W.findIn K (.ref C_NoThrow) "__init__" = some (some (.ref f_NoThrow___init__))) (i_NoThrow___init__ : PySem.W.isFn K (.ref f_NoThrow___init__) = true) (l_NoThrow___init__ : K.lookup f_NoThrow___init__ = some ⟨oc_NoThrow___init__, od_NoThrow___init__, .func (PySem.W.fnOf "__init__" "NoThrow.__init__" (defArgs s_NoThrow___init__) (defBody s_NoThrow___init__) (defScope s_NoThrow___init__) .none kV_NoThrow___init__ dc_NoThrow___init__ pm_NoThrow___init__ an_NoThrow___init__ cd_NoThrow___init__ ct_NoThrow___init__), sl_NoThrow___init__⟩) (c_NoThrow___init__ : PySem.W.codeIn K cd_NoThrow___init__ "NoThrow.__init__" = true) (k_NoThrow___init__ : PySem.W.keepIn K (.ref f_NoThrow___init__) = true)
    {f_Told___init__ : Addr} {od_Told___init__ an_Told___init__ : Option Addr} {sl_Told___init__ : Array (Option Value)} {oc_Told___init__ kV_Told___init__ dc_Told___init__ pm_Told___init__ cd_Told___init__ ct_Told___init__ : Value}
    (a_Told___init__ : PySem.W.findIn K (.ref C_Told) "__init__" = some (some (.ref f_Told___init__))) (i_Told___init__ : PySem.W.isFn K (.ref f_Told___init__) = true) (l_Told___init__ : K.lookup f_Told___init__ = some ⟨oc_Told___init__, od_Told___init__, .func (PySem.W.fnOf "__init__" "Told.__init__" (defArgs s_Told___init__) (defBody s_Told___init__) (defScope s_Told___init__) .none kV_Told___init__ dc_Told___init__ pm_Told___init__ an_Told___init__ cd_Told___init__ ct_Told___init__), sl_Told___init__⟩) (c_Told___init__ : PySem.W.codeIn K cd_Told___init__ "Told.__init__" = true) (k_Told___init__ : PySem.W.keepIn K (.ref f_Told___init__) = true)
    {f_Told_is_told : Addr} {od_Told_is_told an_Told_is_told : Option Addr} {sl_Told_is_told : Array (Option Value)} {oc_Told_is_told kV_Told_is_told dc_Told_is_told pm_Told_is_told cd_Told_is_told ct_Told_is_told : Value}
    (a_Told_is_told : PySem.W.findIn K (.ref C_Told) "is_told" = some (some (.ref f_Told_is_told))) (i_Told_is_told : PySem.W.isFn K (.ref f_Told_is_told) = true) (l_Told_is_told : K.lookup f_Told_is_told = some ⟨oc_Told_is_told, od_Told_is_told, .func (PySem.W.fnOf "is_told" "Told.is_told" (defArgs s_Told_is_told) (defBody s_Told_is_told) (defScope s_Told_is_told) .none kV_Told_is_told dc_Told_is_told pm_Told_is_told an_Told_is_told cd_Told_is_told ct_Told_is_told), sl_Told_is_told⟩) (c_Told_is_told : PySem.W.codeIn K cd_Told_is_told "Told.is_told" = true) (k_Told_is_told : PySem.W.keepIn K (.ref f_Told_is_told) = true)
    {f_Told_kept : Addr} {od_Told_kept an_Told_kept : Option Addr} {sl_Told_kept : Array (Option Value)} {oc_Told_kept kV_Told_kept dc_Told_kept pm_Told_kept cd_Told_kept ct_Told_kept : Value}
    (a_Told_kept : PySem.W.findIn K (.ref C_Told) "kept" = some (some (.ref f_Told_kept))) (i_Told_kept : PySem.W.isFn K (.ref f_Told_kept) = true) (l_Told_kept : K.lookup f_Told_kept = some ⟨oc_Told_kept, od_Told_kept, .func (PySem.W.fnOf "kept" "Told.kept" (defArgs s_Told_kept) (defBody s_Told_kept) (defScope s_Told_kept) .none kV_Told_kept dc_Told_kept pm_Told_kept an_Told_kept cd_Told_kept ct_Told_kept), sl_Told_kept⟩) (c_Told_kept : PySem.W.codeIn K cd_Told_kept "Told.kept" = true) (k_Told_kept : PySem.W.keepIn K (.ref f_Told_kept) = true)
    {f_Told_after : Addr} {od_Told_after an_Told_after : Option Addr} {sl_Told_after : Array (Option Value)} {oc_Told_after kV_Told_after dc_Told_after pm_Told_after cd_Told_after ct_Told_after : Value}
    (a_Told_after : PySem.W.findIn K (.ref C_Told) "after" = some (some (.ref f_Told_after))) (i_Told_after : PySem.W.isFn K (.ref f_Told_after) = true) (l_Told_after : K.lookup f_Told_after = some ⟨oc_Told_after, od_Told_after, .func (PySem.W.fnOf "after" "Node.after" (defArgs s_Told_after) (defBody s_Told_after) (defScope s_Told_after) .none kV_Told_after dc_Told_after pm_Told_after an_Told_after cd_Told_after ct_Told_after), sl_Told_after⟩) (c_Told_after : PySem.W.codeIn K cd_Told_after "Node.after" = true) (k_Told_after : PySem.W.keepIn K (.ref f_Told_after) = true)
    {f_Die___init__ : Addr} {od_Die___init__ an_Die___init__ : Option Addr} {sl_Die___init__ : Array (Option Value)} {oc_Die___init__ kV_Die___init__ dc_Die___init__ pm_Die___init__ cd_Die___init__ ct_Die___init__ : Value}
    (a_Die___init__ : PySem.W.findIn K (.ref C_Die) "__init__" = some (some (.ref f_Die___init__))) (i_Die___init__ : PySem.W.isFn K (.ref f_Die___init__) = true) (l_Die___init__ : K.lookup f_Die___init__ = some ⟨oc_Die___init__, od_Die___init__, .func (PySem.W.fnOf "__init__" "Die.__init__" (defArgs s_Die___init__) (defBody s_Die___init__) (defScope s_Die___init__) .none kV_Die___init__ dc_Die___init__ pm_Die___init__ an_Die___init__ cd_Die___init__ ct_Die___init__), sl_Die___init__⟩) (c_Die___init__ : PySem.W.codeIn K cd_Die___init__ "Die.__init__" = true) (k_Die___init__ : PySem.W.keepIn K (.ref f_Die___init__) = true)
    {f_Die_is_told : Addr} {od_Die_is_told an_Die_is_told : Option Addr} {sl_Die_is_told : Array (Option Value)} {oc_Die_is_told kV_Die_is_told dc_Die_is_told pm_Die_is_told cd_Die_is_told ct_Die_is_told : Value}
    (a_Die_is_told : PySem.W.findIn K (.ref C_Die) "is_told" = some (some (.ref f_Die_is_told))) (i_Die_is_told : PySem.W.isFn K (.ref f_Die_is_told) = true) (l_Die_is_told : K.lookup f_Die_is_told = some ⟨oc_Die_is_told, od_Die_is_told, .func (PySem.W.fnOf "is_told" "Node.is_told" (defArgs s_Die_is_told) (defBody s_Die_is_told) (defScope s_Die_is_told) .none kV_Die_is_told dc_Die_is_told pm_Die_is_told an_Die_is_told cd_Die_is_told ct_Die_is_told), sl_Die_is_told⟩) (c_Die_is_told : PySem.W.codeIn K cd_Die_is_told "Node.is_told" = true) (k_Die_is_told : PySem.W.keepIn K (.ref f_Die_is_told) = true)
    {f_Die_after : Addr} {od_Die_after an_Die_after : Option Addr} {sl_Die_after : Array (Option Value)} {oc_Die_after kV_Die_after dc_Die_after pm_Die_after cd_Die_after ct_Die_after : Value}
    (a_Die_after : PySem.W.findIn K (.ref C_Die) "after" = some (some (.ref f_Die_after))) (i_Die_after : PySem.W.isFn K (.ref f_Die_after) = true) (l_Die_after : K.lookup f_Die_after = some ⟨oc_Die_after, od_Die_after, .func (PySem.W.fnOf "after" "Die.after" (defArgs s_Die_after) (defBody s_Die_after) (defScope s_Die_after) .none kV_Die_after dc_Die_after pm_Die_after an_Die_after cd_Die_after ct_Die_after), sl_Die_after⟩) (c_Die_after : PySem.W.codeIn K cd_Die_after "Die.after" = true) (k_Die_after : PySem.W.keepIn K (.ref f_Die_after) = true)
    {f_Die_sides : Addr} {od_Die_sides an_Die_sides : Option Addr} {sl_Die_sides : Array (Option Value)} {oc_Die_sides kV_Die_sides dc_Die_sides pm_Die_sides cd_Die_sides ct_Die_sides : Value}
    (a_Die_sides : PySem.W.findIn K (.ref C_Die) "sides" = some (some (.ref f_Die_sides))) (i_Die_sides : PySem.W.isFn K (.ref f_Die_sides) = true) (l_Die_sides : K.lookup f_Die_sides = some ⟨oc_Die_sides, od_Die_sides, .func (PySem.W.fnOf "sides" "Die.sides" (defArgs s_Die_sides) (defBody s_Die_sides) (defScope s_Die_sides) .none kV_Die_sides dc_Die_sides pm_Die_sides an_Die_sides cd_Die_sides ct_Die_sides), sl_Die_sides⟩) (c_Die_sides : PySem.W.codeIn K cd_Die_sides "Die.sides" = true) (k_Die_sides : PySem.W.keepIn K (.ref f_Die_sides) = true)
    {f_Die_parts : Addr} {od_Die_parts an_Die_parts : Option Addr} {sl_Die_parts : Array (Option Value)} {oc_Die_parts kV_Die_parts dc_Die_parts pm_Die_parts cd_Die_parts ct_Die_parts : Value}
    (a_Die_parts : PySem.W.findIn K (.ref C_Die) "parts" = some (some (.ref f_Die_parts))) (i_Die_parts : PySem.W.isFn K (.ref f_Die_parts) = true) (l_Die_parts : K.lookup f_Die_parts = some ⟨oc_Die_parts, od_Die_parts, .func (PySem.W.fnOf "parts" "Die.parts" (defArgs s_Die_parts) (defBody s_Die_parts) (defScope s_Die_parts) .none kV_Die_parts dc_Die_parts pm_Die_parts an_Die_parts cd_Die_parts ct_Die_parts), sl_Die_parts⟩) (c_Die_parts : PySem.W.codeIn K cd_Die_parts "Die.parts" = true) (k_Die_parts : PySem.W.keepIn K (.ref f_Die_parts) = true)
    {f_gone_on cc_gone_on : Addr} {od_gone_on an_gone_on : Option Addr} {sl_gone_on : Array (Option Value)} {oc_gone_on kV_gone_on dc_gone_on pm_gone_on ct_gone_on : Value}
    (a_gone_on : PySem.W.nsIn K mainGlobals "gone_on" = some (some (.ref f_gone_on)))
    (l_gone_on : K.lookup f_gone_on = some ⟨oc_gone_on, od_gone_on, .func (PySem.W.fnOf "gone_on" "gone_on" (defArgs s_gone_on) (defBody s_gone_on) (defScope s_gone_on) .none kV_gone_on dc_gone_on pm_gone_on an_gone_on (.ref cc_gone_on) ct_gone_on), sl_gone_on⟩) (c_gone_on : PySem.W.codeIn K (.ref cc_gone_on) "gone_on" = true) (k_gone_on : PySem.W.keepIn K (.ref f_gone_on) = true)
    (ch_gone_on : PySem.W.codeHdIn K cc_gone_on (pK K cc_gone_on) = true) (nk_gone_on : K.lookup (pK K cc_gone_on) = none) (mt_gone_on : ts.contains (pK K cc_gone_on) = true)
    {f_behind : Addr} {od_behind an_behind : Option Addr} {sl_behind : Array (Option Value)} {oc_behind kV_behind dc_behind pm_behind cd_behind ct_behind : Value}
    (a_behind : PySem.W.nsIn K mainGlobals "behind" = some (some (.ref f_behind))) (l_behind : K.lookup f_behind = some ⟨oc_behind, od_behind, .func (PySem.W.fnOf "behind" "behind" (defArgs s_behind) (defBody s_behind) (defScope s_behind) .none kV_behind dc_behind pm_behind an_behind cd_behind ct_behind), sl_behind⟩) (c_behind : PySem.W.codeIn K cd_behind "behind" = true) (k_behind : PySem.W.keepIn K (.ref f_behind) = true)
    {f_both cc_both : Addr} {od_both an_both : Option Addr} {sl_both : Array (Option Value)} {oc_both kV_both dc_both pm_both ct_both : Value}
    (a_both : PySem.W.nsIn K mainGlobals "both" = some (some (.ref f_both)))
    (l_both : K.lookup f_both = some ⟨oc_both, od_both, .func (PySem.W.fnOf "both" "both" (defArgs s_both) (defBody s_both) (defScope s_both) .none kV_both dc_both pm_both an_both (.ref cc_both) ct_both), sl_both⟩) (c_both : PySem.W.codeIn K (.ref cc_both) "both" = true) (k_both : PySem.W.keepIn K (.ref f_both) = true)
    (ch_both : PySem.W.codeHdIn K cc_both (pK K cc_both) = true) (nk_both : K.lookup (pK K cc_both) = none) (mt_both : ts.contains (pK K cc_both) = true)
    (nn_gone_on_both : (pK K cc_gone_on == pK K cc_both) = false) (nm_both_gone_on : (pK K cc_both == pK K cc_gone_on) = false)
    {f_drawn : Addr} {od_drawn an_drawn : Option Addr} {sl_drawn : Array (Option Value)} {oc_drawn kV_drawn dc_drawn pm_drawn cd_drawn ct_drawn : Value}
    (a_drawn : PySem.W.nsIn K mainGlobals "drawn" = some (some (.ref f_drawn))) (l_drawn : K.lookup f_drawn = some ⟨oc_drawn, od_drawn, .func (PySem.W.fnOf "drawn" "drawn" (defArgs s_drawn) (defBody s_drawn) (defScope s_drawn) .none kV_drawn dc_drawn pm_drawn an_drawn cd_drawn ct_drawn), sl_drawn⟩) (c_drawn : PySem.W.codeIn K cd_drawn "drawn" = true) (k_drawn : PySem.W.keepIn K (.ref f_drawn) = true)
    {f_divisor : Addr} {od_divisor an_divisor : Option Addr} {sl_divisor : Array (Option Value)} {oc_divisor kV_divisor dc_divisor pm_divisor cd_divisor ct_divisor : Value}
    (a_divisor : PySem.W.nsIn K mainGlobals "divisor" = some (some (.ref f_divisor))) (l_divisor : K.lookup f_divisor = some ⟨oc_divisor, od_divisor, .func (PySem.W.fnOf "divisor" "divisor" (defArgs s_divisor) (defBody s_divisor) (defScope s_divisor) .none kV_divisor dc_divisor pm_divisor an_divisor cd_divisor ct_divisor), sl_divisor⟩) (c_divisor : PySem.W.codeIn K cd_divisor "divisor" = true) (k_divisor : PySem.W.keepIn K (.ref f_divisor) = true)
    {f_share : Addr} {od_share an_share : Option Addr} {sl_share : Array (Option Value)} {oc_share kV_share dc_share pm_share cd_share ct_share : Value}
    (a_share : PySem.W.nsIn K mainGlobals "share" = some (some (.ref f_share))) (l_share : K.lookup f_share = some ⟨oc_share, od_share, .func (PySem.W.fnOf "share" "share" (defArgs s_share) (defBody s_share) (defScope s_share) .none kV_share dc_share pm_share an_share cd_share ct_share), sl_share⟩) (c_share : PySem.W.codeIn K cd_share "share" = true) (k_share : PySem.W.keepIn K (.ref f_share) = true)
    {f_plus : Addr} {od_plus an_plus : Option Addr} {sl_plus : Array (Option Value)} {oc_plus kV_plus dc_plus pm_plus cd_plus ct_plus : Value}
    (a_plus : PySem.W.nsIn K mainGlobals "plus" = some (some (.ref f_plus))) (l_plus : K.lookup f_plus = some ⟨oc_plus, od_plus, .func (PySem.W.fnOf "plus" "plus" (defArgs s_plus) (defBody s_plus) (defScope s_plus) .none kV_plus dc_plus pm_plus an_plus cd_plus ct_plus), sl_plus⟩) (c_plus : PySem.W.codeIn K cd_plus "plus" = true) (k_plus : PySem.W.keepIn K (.ref f_plus) = true)
    {f_times : Addr} {od_times an_times : Option Addr} {sl_times : Array (Option Value)} {oc_times kV_times dc_times pm_times cd_times ct_times : Value}
    (a_times : PySem.W.nsIn K mainGlobals "times" = some (some (.ref f_times))) (l_times : K.lookup f_times = some ⟨oc_times, od_times, .func (PySem.W.fnOf "times" "times" (defArgs s_times) (defBody s_times) (defScope s_times) .none kV_times dc_times pm_times an_times cd_times ct_times), sl_times⟩) (c_times : PySem.W.codeIn K cd_times "times" = true) (k_times : PySem.W.keepIn K (.ref f_times) = true)
    {f_leaves : Addr} {od_leaves an_leaves : Option Addr} {sl_leaves : Array (Option Value)} {oc_leaves kV_leaves dc_leaves pm_leaves cd_leaves ct_leaves : Value}
    (a_leaves : PySem.W.nsIn K mainGlobals "leaves" = some (some (.ref f_leaves))) (l_leaves : K.lookup f_leaves = some ⟨oc_leaves, od_leaves, .func (PySem.W.fnOf "leaves" "leaves" (defArgs s_leaves) (defBody s_leaves) (defScope s_leaves) .none kV_leaves dc_leaves pm_leaves an_leaves cd_leaves ct_leaves), sl_leaves⟩) (c_leaves : PySem.W.codeIn K cd_leaves "leaves" = true) (k_leaves : PySem.W.keepIn K (.ref f_leaves) = true)
    {f_table : Addr} {od_table an_table : Option Addr} {sl_table : Array (Option Value)} {oc_table kV_table dc_table pm_table cd_table ct_table : Value}
    (a_table : PySem.W.nsIn K mainGlobals "table" = some (some (.ref f_table))) (l_table : K.lookup f_table = some ⟨oc_table, od_table, .func (PySem.W.fnOf "table" "table" (defArgs s_table) (defBody s_table) (defScope s_table) .none kV_table dc_table pm_table an_table cd_table ct_table), sl_table⟩) (c_table : PySem.W.codeIn K cd_table "table" = true) (k_table : PySem.W.keepIn K (.ref f_table) = true)
    {f__law_make cc__law_make : Addr} {od__law_make an__law_make : Option Addr} {sl__law_make : Array (Option Value)} {oc__law_make kV__law_make dc__law_make pm__law_make ct__law_make : Value}
    (a__law_make : PySem.W.nsIn K mainGlobals "_law_make" = some (some (.ref f__law_make)))
    (l__law_make : K.lookup f__law_make = some ⟨oc__law_make, od__law_make, .func (PySem.W.fnOf "_law_make" "_law_make" (defArgs s__law_make) (defBody s__law_make) (defScope s__law_make) .none kV__law_make dc__law_make pm__law_make an__law_make (.ref cc__law_make) ct__law_make), sl__law_make⟩) (c__law_make : PySem.W.codeIn K (.ref cc__law_make) "_law_make" = true) (k__law_make : PySem.W.keepIn K (.ref f__law_make) = true)
    (ch__law_make : PySem.W.codeHdIn K cc__law_make (pK K cc__law_make) = true) (nk__law_make : K.lookup (pK K cc__law_make) = none) (mt__law_make : ts.contains (pK K cc__law_make) = true)
    (nn_gone_on__law_make : (pK K cc_gone_on == pK K cc__law_make) = false) (nm__law_make_gone_on : (pK K cc__law_make == pK K cc_gone_on) = false)
    (nn_both__law_make : (pK K cc_both == pK K cc__law_make) = false) (nm__law_make_both : (pK K cc__law_make == pK K cc_both) = false)
    {f__law_node : Addr} {od__law_node an__law_node : Option Addr} {sl__law_node : Array (Option Value)} {oc__law_node kV__law_node dc__law_node pm__law_node cd__law_node ct__law_node : Value}
    (a__law_node : PySem.W.nsIn K mainGlobals "_law_node" = some (some (.ref f__law_node))) (l__law_node : K.lookup f__law_node = some ⟨oc__law_node, od__law_node, .func (PySem.W.fnOf "_law_node" "_law_node" (defArgs s__law_node) (defBody s__law_node) (defScope s__law_node) .none kV__law_node dc__law_node pm__law_node an__law_node cd__law_node ct__law_node), sl__law_node⟩) (c__law_node : PySem.W.codeIn K cd__law_node "_law_node" = true) (k__law_node : PySem.W.keepIn K (.ref f__law_node) = true)
    {f__law_cell : Addr} {od__law_cell an__law_cell : Option Addr} {sl__law_cell : Array (Option Value)} {oc__law_cell kV__law_cell dc__law_cell pm__law_cell cd__law_cell ct__law_cell : Value}
    (a__law_cell : PySem.W.nsIn K mainGlobals "_law_cell" = some (some (.ref f__law_cell))) (l__law_cell : K.lookup f__law_cell = some ⟨oc__law_cell, od__law_cell, .func (PySem.W.fnOf "_law_cell" "_law_cell" (defArgs s__law_cell) (defBody s__law_cell) (defScope s__law_cell) .none kV__law_cell dc__law_cell pm__law_cell an__law_cell cd__law_cell ct__law_cell), sl__law_cell⟩) (c__law_cell : PySem.W.codeIn K cd__law_cell "_law_cell" = true) (k__law_cell : PySem.W.keepIn K (.ref f__law_cell) = true)
    {f__law_mix : Addr} {od__law_mix an__law_mix : Option Addr} {sl__law_mix : Array (Option Value)} {oc__law_mix kV__law_mix dc__law_mix pm__law_mix cd__law_mix ct__law_mix : Value}
    (a__law_mix : PySem.W.nsIn K mainGlobals "_law_mix" = some (some (.ref f__law_mix))) (l__law_mix : K.lookup f__law_mix = some ⟨oc__law_mix, od__law_mix, .func (PySem.W.fnOf "_law_mix" "_law_mix" (defArgs s__law_mix) (defBody s__law_mix) (defScope s__law_mix) .none kV__law_mix dc__law_mix pm__law_mix an__law_mix cd__law_mix ct__law_mix), sl__law_mix⟩) (c__law_mix : PySem.W.codeIn K cd__law_mix "_law_mix" = true) (k__law_mix : PySem.W.keepIn K (.ref f__law_mix) = true)
    {f__law_digits : Addr} {od__law_digits an__law_digits : Option Addr} {sl__law_digits : Array (Option Value)} {oc__law_digits kV__law_digits dc__law_digits pm__law_digits cd__law_digits ct__law_digits : Value}
    (a__law_digits : PySem.W.nsIn K mainGlobals "_law_digits" = some (some (.ref f__law_digits))) (l__law_digits : K.lookup f__law_digits = some ⟨oc__law_digits, od__law_digits, .func (PySem.W.fnOf "_law_digits" "_law_digits" (defArgs s__law_digits) (defBody s__law_digits) (defScope s__law_digits) .none kV__law_digits dc__law_digits pm__law_digits an__law_digits cd__law_digits ct__law_digits), sl__law_digits⟩) (c__law_digits : PySem.W.codeIn K cd__law_digits "_law_digits" = true) (k__law_digits : PySem.W.keepIn K (.ref f__law_digits) = true)
    {f__law_take : Addr} {od__law_take an__law_take : Option Addr} {sl__law_take : Array (Option Value)} {oc__law_take kV__law_take dc__law_take pm__law_take cd__law_take ct__law_take : Value}
    (a__law_take : PySem.W.nsIn K mainGlobals "_law_take" = some (some (.ref f__law_take))) (l__law_take : K.lookup f__law_take = some ⟨oc__law_take, od__law_take, .func (PySem.W.fnOf "_law_take" "_law_take" (defArgs s__law_take) (defBody s__law_take) (defScope s__law_take) .none kV__law_take dc__law_take pm__law_take an__law_take cd__law_take ct__law_take), sl__law_take⟩) (c__law_take : PySem.W.codeIn K cd__law_take "_law_take" = true) (k__law_take : PySem.W.keepIn K (.ref f__law_take) = true)
    {f__law_kept : Addr} {od__law_kept an__law_kept : Option Addr} {sl__law_kept : Array (Option Value)} {oc__law_kept kV__law_kept dc__law_kept pm__law_kept cd__law_kept ct__law_kept : Value}
    (a__law_kept : PySem.W.nsIn K mainGlobals "_law_kept" = some (some (.ref f__law_kept))) (l__law_kept : K.lookup f__law_kept = some ⟨oc__law_kept, od__law_kept, .func (PySem.W.fnOf "_law_kept" "_law_kept" (defArgs s__law_kept) (defBody s__law_kept) (defScope s__law_kept) .none kV__law_kept dc__law_kept pm__law_kept an__law_kept cd__law_kept ct__law_kept), sl__law_kept⟩) (c__law_kept : PySem.W.codeIn K cd__law_kept "_law_kept" = true) (k__law_kept : PySem.W.keepIn K (.ref f__law_kept) = true)
    {f__law_tree : Addr} {od__law_tree an__law_tree : Option Addr} {sl__law_tree : Array (Option Value)} {oc__law_tree kV__law_tree dc__law_tree pm__law_tree cd__law_tree ct__law_tree : Value}
    (a__law_tree : PySem.W.nsIn K mainGlobals "_law_tree" = some (some (.ref f__law_tree))) (l__law_tree : K.lookup f__law_tree = some ⟨oc__law_tree, od__law_tree, .func (PySem.W.fnOf "_law_tree" "_law_tree" (defArgs s__law_tree) (defBody s__law_tree) (defScope s__law_tree) .none kV__law_tree dc__law_tree pm__law_tree an__law_tree cd__law_tree ct__law_tree), sl__law_tree⟩) (c__law_tree : PySem.W.codeIn K cd__law_tree "_law_tree" = true) (k__law_tree : PySem.W.keepIn K (.ref f__law_tree) = true)
    {f__law_divisor : Addr} {od__law_divisor an__law_divisor : Option Addr} {sl__law_divisor : Array (Option Value)} {oc__law_divisor kV__law_divisor dc__law_divisor pm__law_divisor cd__law_divisor ct__law_divisor : Value}
    (a__law_divisor : PySem.W.nsIn K mainGlobals "_law_divisor" = some (some (.ref f__law_divisor))) (l__law_divisor : K.lookup f__law_divisor = some ⟨oc__law_divisor, od__law_divisor, .func (PySem.W.fnOf "_law_divisor" "_law_divisor" (defArgs s__law_divisor) (defBody s__law_divisor) (defScope s__law_divisor) .none kV__law_divisor dc__law_divisor pm__law_divisor an__law_divisor cd__law_divisor ct__law_divisor), sl__law_divisor⟩) (c__law_divisor : PySem.W.codeIn K cd__law_divisor "_law_divisor" = true) (k__law_divisor : PySem.W.keepIn K (.ref f__law_divisor) = true)
    {f__law_lowest : Addr} {od__law_lowest an__law_lowest : Option Addr} {sl__law_lowest : Array (Option Value)} {oc__law_lowest kV__law_lowest dc__law_lowest pm__law_lowest cd__law_lowest ct__law_lowest : Value}
    (a__law_lowest : PySem.W.nsIn K mainGlobals "_law_lowest" = some (some (.ref f__law_lowest))) (l__law_lowest : K.lookup f__law_lowest = some ⟨oc__law_lowest, od__law_lowest, .func (PySem.W.fnOf "_law_lowest" "_law_lowest" (defArgs s__law_lowest) (defBody s__law_lowest) (defScope s__law_lowest) .none kV__law_lowest dc__law_lowest pm__law_lowest an__law_lowest cd__law_lowest ct__law_lowest), sl__law_lowest⟩) (c__law_lowest : PySem.W.codeIn K cd__law_lowest "_law_lowest" = true) (k__law_lowest : PySem.W.keepIn K (.ref f__law_lowest) = true)
    {f__law_sum : Addr} {od__law_sum an__law_sum : Option Addr} {sl__law_sum : Array (Option Value)} {oc__law_sum kV__law_sum dc__law_sum pm__law_sum cd__law_sum ct__law_sum : Value}
    (a__law_sum : PySem.W.nsIn K mainGlobals "_law_sum" = some (some (.ref f__law_sum))) (l__law_sum : K.lookup f__law_sum = some ⟨oc__law_sum, od__law_sum, .func (PySem.W.fnOf "_law_sum" "_law_sum" (defArgs s__law_sum) (defBody s__law_sum) (defScope s__law_sum) .none kV__law_sum dc__law_sum pm__law_sum an__law_sum cd__law_sum ct__law_sum), sl__law_sum⟩) (c__law_sum : PySem.W.codeIn K cd__law_sum "_law_sum" = true) (k__law_sum : PySem.W.keepIn K (.ref f__law_sum) = true)
    {f__law_product : Addr} {od__law_product an__law_product : Option Addr} {sl__law_product : Array (Option Value)} {oc__law_product kV__law_product dc__law_product pm__law_product cd__law_product ct__law_product : Value}
    (a__law_product : PySem.W.nsIn K mainGlobals "_law_product" = some (some (.ref f__law_product))) (l__law_product : K.lookup f__law_product = some ⟨oc__law_product, od__law_product, .func (PySem.W.fnOf "_law_product" "_law_product" (defArgs s__law_product) (defBody s__law_product) (defScope s__law_product) .none kV__law_product dc__law_product pm__law_product an__law_product cd__law_product ct__law_product), sl__law_product⟩) (c__law_product : PySem.W.codeIn K cd__law_product "_law_product" = true) (k__law_product : PySem.W.keepIn K (.ref f__law_product) = true)
    {f__law_walk : Addr} {od__law_walk an__law_walk : Option Addr} {sl__law_walk : Array (Option Value)} {oc__law_walk kV__law_walk dc__law_walk pm__law_walk cd__law_walk ct__law_walk : Value}
    (a__law_walk : PySem.W.nsIn K mainGlobals "_law_walk" = some (some (.ref f__law_walk))) (l__law_walk : K.lookup f__law_walk = some ⟨oc__law_walk, od__law_walk, .func (PySem.W.fnOf "_law_walk" "_law_walk" (defArgs s__law_walk) (defBody s__law_walk) (defScope s__law_walk) .none kV__law_walk dc__law_walk pm__law_walk an__law_walk cd__law_walk ct__law_walk), sl__law_walk⟩) (c__law_walk : PySem.W.codeIn K cd__law_walk "_law_walk" = true) (k__law_walk : PySem.W.keepIn K (.ref f__law_walk) = true)
    {f__law_doubled : Addr} {od__law_doubled an__law_doubled : Option Addr} {sl__law_doubled : Array (Option Value)} {oc__law_doubled kV__law_doubled dc__law_doubled pm__law_doubled cd__law_doubled ct__law_doubled : Value}
    (a__law_doubled : PySem.W.nsIn K mainGlobals "_law_doubled" = some (some (.ref f__law_doubled))) (l__law_doubled : K.lookup f__law_doubled = some ⟨oc__law_doubled, od__law_doubled, .func (PySem.W.fnOf "_law_doubled" "_law_doubled" (defArgs s__law_doubled) (defBody s__law_doubled) (defScope s__law_doubled) .none kV__law_doubled dc__law_doubled pm__law_doubled an__law_doubled cd__law_doubled ct__law_doubled), sl__law_doubled⟩) (c__law_doubled : PySem.W.codeIn K cd__law_doubled "_law_doubled" = true) (k__law_doubled : PySem.W.keepIn K (.ref f__law_doubled) = true)
    {f__law_way : Addr} {od__law_way an__law_way : Option Addr} {sl__law_way : Array (Option Value)} {oc__law_way kV__law_way dc__law_way pm__law_way cd__law_way ct__law_way : Value}
    (a__law_way : PySem.W.nsIn K mainGlobals "_law_way" = some (some (.ref f__law_way))) (l__law_way : K.lookup f__law_way = some ⟨oc__law_way, od__law_way, .func (PySem.W.fnOf "_law_way" "_law_way" (defArgs s__law_way) (defBody s__law_way) (defScope s__law_way) .none kV__law_way dc__law_way pm__law_way an__law_way cd__law_way ct__law_way), sl__law_way⟩) (c__law_way : PySem.W.codeIn K cd__law_way "_law_way" = true) (k__law_way : PySem.W.keepIn K (.ref f__law_way) = true)
    {f__law_both : Addr} {od__law_both an__law_both : Option Addr} {sl__law_both : Array (Option Value)} {oc__law_both kV__law_both dc__law_both pm__law_both cd__law_both ct__law_both : Value}
    (a__law_both : PySem.W.nsIn K mainGlobals "_law_both" = some (some (.ref f__law_both))) (l__law_both : K.lookup f__law_both = some ⟨oc__law_both, od__law_both, .func (PySem.W.fnOf "_law_both" "_law_both" (defArgs s__law_both) (defBody s__law_both) (defScope s__law_both) .none kV__law_both dc__law_both pm__law_both an__law_both cd__law_both ct__law_both), sl__law_both⟩) (c__law_both : PySem.W.codeIn K cd__law_both "_law_both" = true) (k__law_both : PySem.W.keepIn K (.ref f__law_both) = true)
    {f__law_gone_on : Addr} {od__law_gone_on an__law_gone_on : Option Addr} {sl__law_gone_on : Array (Option Value)} {oc__law_gone_on kV__law_gone_on dc__law_gone_on pm__law_gone_on cd__law_gone_on ct__law_gone_on : Value}
    (a__law_gone_on : PySem.W.nsIn K mainGlobals "_law_gone_on" = some (some (.ref f__law_gone_on))) (l__law_gone_on : K.lookup f__law_gone_on = some ⟨oc__law_gone_on, od__law_gone_on, .func (PySem.W.fnOf "_law_gone_on" "_law_gone_on" (defArgs s__law_gone_on) (defBody s__law_gone_on) (defScope s__law_gone_on) .none kV__law_gone_on dc__law_gone_on pm__law_gone_on an__law_gone_on cd__law_gone_on ct__law_gone_on), sl__law_gone_on⟩) (c__law_gone_on : PySem.W.codeIn K cd__law_gone_on "_law_gone_on" = true) (k__law_gone_on : PySem.W.keepIn K (.ref f__law_gone_on) = true)
    {f__law_go cc__law_go : Addr} {od__law_go an__law_go : Option Addr} {sl__law_go : Array (Option Value)} {oc__law_go kV__law_go dc__law_go pm__law_go ct__law_go : Value}
    (a__law_go : PySem.W.nsIn K mainGlobals "_law_go" = some (some (.ref f__law_go)))
    (l__law_go : K.lookup f__law_go = some ⟨oc__law_go, od__law_go, .func (PySem.W.fnOf "_law_go" "_law_go" (defArgs s__law_go) (defBody s__law_go) (defScope s__law_go) .none kV__law_go dc__law_go pm__law_go an__law_go (.ref cc__law_go) ct__law_go), sl__law_go⟩) (c__law_go : PySem.W.codeIn K (.ref cc__law_go) "_law_go" = true) (k__law_go : PySem.W.keepIn K (.ref f__law_go) = true)
    (ch__law_go : PySem.W.codeHdIn K cc__law_go (pK K cc__law_go) = true) (nk__law_go : K.lookup (pK K cc__law_go) = none) (mt__law_go : ts.contains (pK K cc__law_go) = true)
    (nn_gone_on__law_go : (pK K cc_gone_on == pK K cc__law_go) = false) (nm__law_go_gone_on : (pK K cc__law_go == pK K cc_gone_on) = false)
    (nn_both__law_go : (pK K cc_both == pK K cc__law_go) = false) (nm__law_go_both : (pK K cc__law_go == pK K cc_both) = false)
    (nn__law_make__law_go : (pK K cc__law_make == pK K cc__law_go) = false) (nm__law_go__law_make : (pK K cc__law_go == pK K cc__law_make) = false)
    {f_law : Addr} {od_law an_law : Option Addr} {sl_law : Array (Option Value)} {oc_law kV_law dc_law pm_law cd_law ct_law : Value}
    (a_law : PySem.W.nsIn K mainGlobals "law" = some (some (.ref f_law))) (l_law : K.lookup f_law = some ⟨oc_law, od_law, .func (PySem.W.fnOf "law" "law" (defArgs s_law) (defBody s_law) (defScope s_law) .none kV_law dc_law pm_law an_law cd_law ct_law), sl_law⟩) (c_law : PySem.W.codeIn K cd_law "law" = true) (k_law : PySem.W.keepIn K (.ref f_law) = true) : DefAt K mg "law" s_law ["_law_script"] ∧ TabsE K (csL K mg) h ∧ ∀ base : Heap, (∀ p ∈ csL K mg, TabB base mg p.1 p.2) → Txt K mg base := by
  have e_SpeakError : cA mg "SpeakError" = C_SpeakError := cA_of (PySem.W.mg_of X G aC_SpeakError)
  have e_NoThrow : cA mg "NoThrow" = C_NoThrow := cA_of (PySem.W.mg_of X G aC_NoThrow)
  have e_Told : cA mg "Told" = C_Told := cA_of (PySem.W.mg_of X G aC_Told)
  have e_Die : cA mg "Die" = C_Die := cA_of (PySem.W.mg_of X G aC_Die)
  have e_TooMany : cA mg "TooMany" = C_TooMany := cA_of (PySem.W.mg_of X G aC_TooMany)
  have ec_gone_on : cF K mg "gone_on" = cc_gone_on := cF_of (PySem.W.mg_of X G a_gone_on) l_gone_on rfl
  have ec_both : cF K mg "both" = cc_both := cF_of (PySem.W.mg_of X G a_both) l_both rfl
  have ec__law_make : cF K mg "_law_make" = cc__law_make := cF_of (PySem.W.mg_of X G a__law_make) l__law_make rfl
  have ec__law_go : cF K mg "_law_go" = cc__law_go := cF_of (PySem.W.mg_of X G a__law_go) l__law_go rfl
  refine ⟨⟨f_law, _, fun_mk (st := s_law) l_law c_law k_law, PySem.W.mg_of X G a_law, (fun_mk (st := s_law) l_law c_law k_law).binds (ps := ["_law_script"]) fun _ _ _ _ _ _ us hl => match us, hl with | [_], _ => rfl⟩, (TabsE.cons X ec_gone_on ch_gone_on nk_gone_on mt_gone_on Y (TabsE.cons X ec_both ch_both nk_both mt_both Y (TabsE.cons X ec__law_make ch__law_make nk__law_make mt__law_make Y (TabsE.cons X ec__law_go ch__law_go nk__law_go mt__law_go Y TabsE.nil)))), fun base TB => ⟨(by rw [e_SpeakError]; exact PySem.W.mg_of X G aC_SpeakError), (by rw [e_SpeakError]; exact ⟨bi0_SpeakError, bi1_SpeakError, bi2_SpeakError⟩), (by rw [e_NoThrow]; exact PySem.W.mg_of X G aC_NoThrow), (by rw [e_NoThrow]; exact ⟨ox_NoThrow, o0_NoThrow, o1_NoThrow, o2_NoThrow, o3_NoThrow⟩), (by rw [e_NoThrow]; exact na_NoThrow_place), (PySem.W.mg_none_of X G z_n_sorted), (PySem.W.mg_none_of X G z_n_tuple), (by rw [e_Told]; exact PySem.W.mg_of X G aC_Told), (by rw [e_Told]; exact ⟨pg_Told, hd_Told, po_Told, sa_Told⟩), (by rw [e_Told]; exact na_Told_places), (by rw [e_Die]; exact PySem.W.mg_of X G aC_Die), (by rw [e_Die]; exact ⟨pg_Die, hd_Die, po_Die, sa_Die⟩), (by rw [e_Die]; exact na_Die_ways), (PySem.W.mg_none_of X G z_n_bool), (PySem.W.mg_none_of X G z_n_int), (PySem.W.mg_none_of X G z_n_isinstance), (PySem.W.mg_none_of X G z_n_sum), (PySem.W.mg_none_of X G z_n_enumerate), (PySem.W.mg_none_of X G z_n_len), (by rw [e_NoThrow]; exact ⟨yb_NoThrow, yi_NoThrow, yt_NoThrow⟩), (PySem.W.mg_none_of X G z_n_abs), (⟨_, PySem.W.mg_of X G z_g_MOST_WAYS, y_g_MOST_WAYS⟩), (by rw [e_TooMany]; exact PySem.W.mg_of X G aC_TooMany), (by rw [e_TooMany]; exact ⟨xx_TooMany, xk_TooMany, xb_TooMany, xt_TooMany⟩), (PySem.W.mg_none_of X G z_n_list), (PySem.W.mg_none_of X G z_n_range), (by rw [e_NoThrow]; exact ⟨z0_NoThrow, z1_NoThrow, z2_NoThrow, z3_NoThrow, z4_NoThrow, z5_NoThrow, z6_NoThrow, z7_NoThrow⟩), (by rw [e_NoThrow]; exact es_NoThrow_NoThrow), (by rw [e_TooMany]; exact ⟨yb_TooMany, yi_TooMany, yt_TooMany⟩), (by rw [e_NoThrow]; exact ⟨f_NoThrow___init__, _, fun_mk (st := s_NoThrow___init__) l_NoThrow___init__ c_NoThrow___init__ k_NoThrow___init__, a_NoThrow___init__, i_NoThrow___init__, (fun_mk (st := s_NoThrow___init__) l_NoThrow___init__ c_NoThrow___init__ k_NoThrow___init__).binds (ps := ["self", "place"]) fun _ _ _ _ _ _ us hl => match us, hl with | [_, _], _ => rfl⟩), (by rw [e_Told]; exact ⟨f_Told___init__, _, fun_mk (st := s_Told___init__) l_Told___init__ c_Told___init__ k_Told___init__, ⟨mk_Told, a_Told___init__, i_Told___init__, kc_Told⟩, (fun_mk (st := s_Told___init__) l_Told___init__ c_Told___init__ k_Told___init__).binds (ps := ["self", "kept"]) fun _ _ _ _ _ _ us hl => match us, hl with | [_, _], _ => rfl⟩), (by rw [e_Told]; exact ⟨f_Told_is_told, _, fun_mk (st := s_Told_is_told) l_Told_is_told c_Told_is_told k_Told_is_told, ⟨a_Told_is_told, i_Told_is_told, k_Told_is_told⟩, (fun_mk (st := s_Told_is_told) l_Told_is_told c_Told_is_told k_Told_is_told).binds (ps := ["self"]) fun _ _ _ _ _ _ us hl => match us, hl with | [_], _ => rfl⟩), (by rw [e_Told]; exact ⟨f_Told_kept, _, fun_mk (st := s_Told_kept) l_Told_kept c_Told_kept k_Told_kept, ⟨a_Told_kept, i_Told_kept, k_Told_kept⟩, (fun_mk (st := s_Told_kept) l_Told_kept c_Told_kept k_Told_kept).binds (ps := ["self"]) fun _ _ _ _ _ _ us hl => match us, hl with | [_], _ => rfl⟩), (by rw [e_Told]; exact ⟨f_Told_after, _, fun_mk (st := s_Told_after) l_Told_after c_Told_after k_Told_after, ⟨a_Told_after, i_Told_after, k_Told_after⟩, (fun_mk (st := s_Told_after) l_Told_after c_Told_after k_Told_after).binds (ps := ["self", "throw"]) fun _ _ _ _ _ _ us hl => match us, hl with | [_, _], _ => rfl⟩), (by rw [e_Die]; exact ⟨f_Die___init__, _, fun_mk (st := s_Die___init__) l_Die___init__ c_Die___init__ k_Die___init__, ⟨mk_Die, a_Die___init__, i_Die___init__, kc_Die⟩, (fun_mk (st := s_Die___init__) l_Die___init__ c_Die___init__ k_Die___init__).binds (ps := ["self", "parts"]) fun _ _ _ _ _ _ us hl => match us, hl with | [_, _], _ => rfl⟩), (by rw [e_Die]; exact ⟨f_Die_is_told, _, fun_mk (st := s_Die_is_told) l_Die_is_told c_Die_is_told k_Die_is_told, ⟨a_Die_is_told, i_Die_is_told, k_Die_is_told⟩, (fun_mk (st := s_Die_is_told) l_Die_is_told c_Die_is_told k_Die_is_told).binds (ps := ["self"]) fun _ _ _ _ _ _ us hl => match us, hl with | [_], _ => rfl⟩), (by rw [e_Die]; exact ⟨f_Die_after, _, fun_mk (st := s_Die_after) l_Die_after c_Die_after k_Die_after, ⟨a_Die_after, i_Die_after, k_Die_after⟩, (fun_mk (st := s_Die_after) l_Die_after c_Die_after k_Die_after).binds (ps := ["self", "throw"]) fun _ _ _ _ _ _ us hl => match us, hl with | [_, _], _ => rfl⟩), (by rw [e_Die]; exact ⟨f_Die_sides, _, fun_mk (st := s_Die_sides) l_Die_sides c_Die_sides k_Die_sides, ⟨a_Die_sides, i_Die_sides, k_Die_sides⟩, (fun_mk (st := s_Die_sides) l_Die_sides c_Die_sides k_Die_sides).binds (ps := ["self"]) fun _ _ _ _ _ _ us hl => match us, hl with | [_], _ => rfl⟩), (by rw [e_Die]; exact ⟨f_Die_parts, _, fun_mk (st := s_Die_parts) l_Die_parts c_Die_parts k_Die_parts, ⟨a_Die_parts, i_Die_parts, k_Die_parts⟩, (fun_mk (st := s_Die_parts) l_Die_parts c_Die_parts k_Die_parts).binds (ps := ["self"]) fun _ _ _ _ _ _ us hl => match us, hl with | [_], _ => rfl⟩), (defC_mk ec_gone_on l_gone_on c_gone_on k_gone_on (PySem.W.mg_of X G a_gone_on) fun _ _ _ _ _ _ us hl => match us, hl with | [_, _], _ => rfl), (TB (cF K mg "gone_on", pF K mg "gone_on") (by unfold csL; simp)), (by
    unfold tabsX
    intro p hp e
    simp only [List.mem_cons, List.not_mem_nil, or_false] at hp
    rcases hp with rfl | rfl | rfl | rfl
    · rfl
    · exact absurd e (pF_ne ec_both ec_gone_on nm_both_gone_on)
    · exact absurd e (pF_ne ec__law_make ec_gone_on nm__law_make_gone_on)
    · exact absurd e (pF_ne ec__law_go ec_gone_on nm__law_go_gone_on)), (⟨f_behind, _, fun_mk (st := s_behind) l_behind c_behind k_behind, PySem.W.mg_of X G a_behind, (fun_mk (st := s_behind) l_behind c_behind k_behind).binds (ps := ["node", "go"]) fun _ _ _ _ _ _ us hl => match us, hl with | [_, _], _ => rfl⟩), (defC_mk ec_both l_both c_both k_both (PySem.W.mg_of X G a_both) fun _ _ _ _ _ _ us hl => match us, hl with | [_, _], _ => rfl), (TB (cF K mg "both", pF K mg "both") (by unfold csL; simp)), (by
    unfold tabsX
    intro p hp e
    simp only [List.mem_cons, List.not_mem_nil, or_false] at hp
    rcases hp with rfl | rfl | rfl | rfl
    · exact absurd e (pF_ne ec_gone_on ec_both nn_gone_on_both)
    · rfl
    · exact absurd e (pF_ne ec__law_make ec_both nm__law_make_both)
    · exact absurd e (pF_ne ec__law_go ec_both nm__law_go_both)), (⟨f_drawn, _, fun_mk (st := s_drawn) l_drawn c_drawn k_drawn, PySem.W.mg_of X G a_drawn, (fun_mk (st := s_drawn) l_drawn c_drawn k_drawn).binds (ps := ["node", "throws"]) fun _ _ _ _ _ _ us hl => match us, hl with | [_, _], _ => rfl⟩), (⟨f_divisor, _, fun_mk (st := s_divisor) l_divisor c_divisor k_divisor, PySem.W.mg_of X G a_divisor, (fun_mk (st := s_divisor) l_divisor c_divisor k_divisor).binds (ps := ["one", "other"]) fun _ _ _ _ _ _ us hl => match us, hl with | [_, _], _ => rfl⟩), (⟨f_share, _, fun_mk (st := s_share) l_share c_share k_share, PySem.W.mg_of X G a_share, (fun_mk (st := s_share) l_share c_share k_share).binds (ps := ["top", "bottom"]) fun _ _ _ _ _ _ us hl => match us, hl with | [_, _], _ => rfl⟩), (⟨f_plus, _, fun_mk (st := s_plus) l_plus c_plus k_plus, PySem.W.mg_of X G a_plus, (fun_mk (st := s_plus) l_plus c_plus k_plus).binds (ps := ["one", "other"]) fun _ _ _ _ _ _ us hl => match us, hl with | [_, _], _ => rfl⟩), (⟨f_times, _, fun_mk (st := s_times) l_times c_times k_times, PySem.W.mg_of X G a_times, (fun_mk (st := s_times) l_times c_times k_times).binds (ps := ["one", "other"]) fun _ _ _ _ _ _ us hl => match us, hl with | [_, _], _ => rfl⟩), (⟨f_leaves, _, fun_mk (st := s_leaves) l_leaves c_leaves k_leaves, PySem.W.mg_of X G a_leaves, (fun_mk (st := s_leaves) l_leaves c_leaves k_leaves).binds (ps := ["node", "much", "found"]) fun _ _ _ _ _ _ us hl => match us, hl with | [_, _, _], _ => rfl⟩), (⟨f_table, _, fun_mk (st := s_table) l_table c_table k_table, PySem.W.mg_of X G a_table, (fun_mk (st := s_table) l_table c_table k_table).binds (ps := ["node"]) fun _ _ _ _ _ _ us hl => match us, hl with | [_], _ => rfl⟩), (defC_mk ec__law_make l__law_make c__law_make k__law_make (PySem.W.mg_of X G a__law_make) fun _ _ _ _ _ _ us hl => match us, hl with | [_], _ => rfl), (TB (cF K mg "_law_make", pF K mg "_law_make") (by unfold csL; simp)), (by
    unfold tabsX
    intro p hp e
    simp only [List.mem_cons, List.not_mem_nil, or_false] at hp
    rcases hp with rfl | rfl | rfl | rfl
    · exact absurd e (pF_ne ec_gone_on ec__law_make nn_gone_on__law_make)
    · exact absurd e (pF_ne ec_both ec__law_make nn_both__law_make)
    · rfl
    · exact absurd e (pF_ne ec__law_go ec__law_make nm__law_go__law_make)), (⟨f__law_node, _, fun_mk (st := s__law_node) l__law_node c__law_node k__law_node, PySem.W.mg_of X G a__law_node, (fun_mk (st := s__law_node) l__law_node c__law_node k__law_node).binds (ps := ["_law_tree_here"]) fun _ _ _ _ _ _ us hl => match us, hl with | [_], _ => rfl⟩), (⟨f__law_cell, _, fun_mk (st := s__law_cell) l__law_cell c__law_cell k__law_cell, PySem.W.mg_of X G a__law_cell, (fun_mk (st := s__law_cell) l__law_cell c__law_cell k__law_cell).binds (ps := ["_law_script", "_law_k"]) fun _ _ _ _ _ _ us hl => match us, hl with | [_, _], _ => rfl⟩), (⟨f__law_mix, _, fun_mk (st := s__law_mix) l__law_mix c__law_mix k__law_mix, PySem.W.mg_of X G a__law_mix, (fun_mk (st := s__law_mix) l__law_mix c__law_mix k__law_mix).binds (ps := ["_law_cell_here", "_law_k"]) fun _ _ _ _ _ _ us hl => match us, hl with | [_, _], _ => rfl⟩), (⟨f__law_digits, _, fun_mk (st := s__law_digits) l__law_digits c__law_digits k__law_digits, PySem.W.mg_of X G a__law_digits, (fun_mk (st := s__law_digits) l__law_digits c__law_digits k__law_digits).binds (ps := ["_law_cell_here"]) fun _ _ _ _ _ _ us hl => match us, hl with | [_], _ => rfl⟩), (⟨f__law_take, _, fun_mk (st := s__law_take) l__law_take c__law_take k__law_take, PySem.W.mg_of X G a__law_take, (fun_mk (st := s__law_take) l__law_take c__law_take k__law_take).binds (ps := ["_law_state", "_law_many"]) fun _ _ _ _ _ _ us hl => match us, hl with | [_, _], _ => rfl⟩), (⟨f__law_kept, _, fun_mk (st := s__law_kept) l__law_kept c__law_kept k__law_kept, PySem.W.mg_of X G a__law_kept, (fun_mk (st := s__law_kept) l__law_kept c__law_kept k__law_kept).binds (ps := ["_law_state"]) fun _ _ _ _ _ _ us hl => match us, hl with | [_], _ => rfl⟩), (⟨f__law_tree, _, fun_mk (st := s__law_tree) l__law_tree c__law_tree k__law_tree, PySem.W.mg_of X G a__law_tree, (fun_mk (st := s__law_tree) l__law_tree c__law_tree k__law_tree).binds (ps := ["_law_state", "_law_deep"]) fun _ _ _ _ _ _ us hl => match us, hl with | [_, _], _ => rfl⟩), (⟨f__law_divisor, _, fun_mk (st := s__law_divisor) l__law_divisor c__law_divisor k__law_divisor, PySem.W.mg_of X G a__law_divisor, (fun_mk (st := s__law_divisor) l__law_divisor c__law_divisor k__law_divisor).binds (ps := ["_law_one", "_law_other"]) fun _ _ _ _ _ _ us hl => match us, hl with | [_, _], _ => rfl⟩), (⟨f__law_lowest, _, fun_mk (st := s__law_lowest) l__law_lowest c__law_lowest k__law_lowest, PySem.W.mg_of X G a__law_lowest, (fun_mk (st := s__law_lowest) l__law_lowest c__law_lowest k__law_lowest).binds (ps := ["_law_top", "_law_bottom"]) fun _ _ _ _ _ _ us hl => match us, hl with | [_, _], _ => rfl⟩), (⟨f__law_sum, _, fun_mk (st := s__law_sum) l__law_sum c__law_sum k__law_sum, PySem.W.mg_of X G a__law_sum, (fun_mk (st := s__law_sum) l__law_sum c__law_sum k__law_sum).binds (ps := ["_law_one", "_law_other"]) fun _ _ _ _ _ _ us hl => match us, hl with | [_, _], _ => rfl⟩), (⟨f__law_product, _, fun_mk (st := s__law_product) l__law_product c__law_product k__law_product, PySem.W.mg_of X G a__law_product, (fun_mk (st := s__law_product) l__law_product c__law_product k__law_product).binds (ps := ["_law_one", "_law_other"]) fun _ _ _ _ _ _ us hl => match us, hl with | [_, _], _ => rfl⟩), (⟨f__law_walk, _, fun_mk (st := s__law_walk) l__law_walk c__law_walk k__law_walk, PySem.W.mg_of X G a__law_walk, (fun_mk (st := s__law_walk) l__law_walk c__law_walk k__law_walk).binds (ps := ["_law_tree_here", "_law_much", "_law_found"]) fun _ _ _ _ _ _ us hl => match us, hl with | [_, _, _], _ => rfl⟩), (⟨f__law_doubled, _, fun_mk (st := s__law_doubled) l__law_doubled c__law_doubled k__law_doubled, PySem.W.mg_of X G a__law_doubled, (fun_mk (st := s__law_doubled) l__law_doubled c__law_doubled k__law_doubled).binds (ps := ["_law_tree_here", "_law_odd"]) fun _ _ _ _ _ _ us hl => match us, hl with | [_, _], _ => rfl⟩), (⟨f__law_way, _, fun_mk (st := s__law_way) l__law_way c__law_way k__law_way, PySem.W.mg_of X G a__law_way, (fun_mk (st := s__law_way) l__law_way c__law_way k__law_way).binds (ps := ["_law_tree_here", "_law_state"]) fun _ _ _ _ _ _ us hl => match us, hl with | [_, _], _ => rfl⟩), (⟨f__law_both, _, fun_mk (st := s__law_both) l__law_both c__law_both k__law_both, PySem.W.mg_of X G a__law_both, (fun_mk (st := s__law_both) l__law_both c__law_both k__law_both).binds (ps := ["_law_one", "_law_other"]) fun _ _ _ _ _ _ us hl => match us, hl with | [_, _], _ => rfl⟩), (⟨f__law_gone_on, _, fun_mk (st := s__law_gone_on) l__law_gone_on c__law_gone_on k__law_gone_on, PySem.W.mg_of X G a__law_gone_on, (fun_mk (st := s__law_gone_on) l__law_gone_on c__law_gone_on k__law_gone_on).binds (ps := ["_law_tree_here", "_law_sides"]) fun _ _ _ _ _ _ us hl => match us, hl with | [_, _], _ => rfl⟩), (defC_mk ec__law_go l__law_go c__law_go k__law_go (PySem.W.mg_of X G a__law_go) fun _ _ _ _ _ _ us hl => match us, hl with | [_], _ => rfl), (TB (cF K mg "_law_go", pF K mg "_law_go") (by unfold csL; simp)), (by
    unfold tabsX
    intro p hp e
    simp only [List.mem_cons, List.not_mem_nil, or_false] at hp
    rcases hp with rfl | rfl | rfl | rfl
    · exact absurd e (pF_ne ec_gone_on ec__law_go nn_gone_on__law_go)
    · exact absurd e (pF_ne ec_both ec__law_go nn_both__law_go)
    · exact absurd e (pF_ne ec__law_make ec__law_go nn__law_make__law_go)
    · rfl), (⟨f_law, _, fun_mk (st := s_law) l_law c_law k_law, PySem.W.mg_of X G a_law, (fun_mk (st := s_law) l_law c_law k_law).binds (ps := ["_law_script"]) fun _ _ _ _ _ _ us hl => match us, hl with | [_], _ => rfl⟩)⟩⟩
theorem law_mk {l : PySem.W.OpenLaw} {w : World} {K : PySem.W.Frag} {h : Heap} {mg : Str → Option Value} {fa : Addr} (Y : DefAt K mg "law" s_law ["_law_script"] ∧ TabsE K (csL K mg) h ∧ ∀ base : Heap, (∀ p ∈ csL K mg, TabB base mg p.1 p.2) → Txt K mg base) (hfa : mg "law" = some (.ref fa)) :
    LamX.LawAtS l w K CX0 104 63 "_law_script" mg fa h := by
  obtain ⟨D, E, T⟩ := Y
  obtain ⟨f, fd, F, hm, b⟩ := D.ex
  have e := hfa.symm.trans hm
  cases e
  refine ⟨fd, csL K mg, sp_law K mg, E.e, E.n, E.c, fun s v => ?_, fun H a ns hl hb hH hS => ⟨ns, hS, hl, hb, tabsX_nil hH (by unfold tabsX csL; simp), fun _ => rfl⟩, fun base _ _ tb => c_law (T base tb) F⟩
  obtain ⟨oc, od, kV, doc, pm, an, cdv, ct, osl, rfl, lk, hcd⟩ := F.ex
  exact .of_eq rfl
end My
open PySem PySem.W PyProof.Rows
set_option maxRecDepth 100000 in
set_option maxHeartbeats 0 in
theorem PySem.Challenge.cw_fewspeak_k15_one_behind_another_holds : PySem.Challenge.rw_fewspeak_k15_one_behind_another.Holds := by
  w_on; o_law; k_head; (case hw => w_witness2)
  k_fill
  refine LamX.walk_ofTs (l := PySem.Challenge.rw_fewspeak_k15_one_behind_another) (n := 63) (k := 104) (x := "_law_script") (CX := fun _ => L2.CX0) rfl (by decide) rfl ⟨rfl, by decide, by decide⟩ (fun w h Y => PySem.W.km_in_of Y) ?F (fun _ _ _ _ _ h => h)
  case F =>
    intro w mg fa h Y KX G hmg
    refine' My.law_mk (My.txt_mk KX G (PySem.W.km_tabs_of Y) ?aC_SpeakError ?bi0_SpeakError ?bi1_SpeakError ?bi2_SpeakError ?aC_NoThrow ?ox_NoThrow ?o0_NoThrow ?o1_NoThrow ?o2_NoThrow ?o3_NoThrow ?na_NoThrow_place ?z_n_sorted ?z_n_tuple ?aC_Told ?pg_Told ?hd_Told ?po_Told ?sa_Told ?mk_Told ?kc_Told ?na_Told_places ?aC_Die ?pg_Die ?hd_Die ?po_Die ?sa_Die ?mk_Die ?kc_Die ?na_Die_ways ?z_n_bool ?z_n_int ?z_n_isinstance ?z_n_sum ?z_n_enumerate ?z_n_len ?yb_NoThrow ?yi_NoThrow ?yt_NoThrow ?z_n_abs ?z_g_MOST_WAYS ?y_g_MOST_WAYS ?aC_TooMany ?xx_TooMany ?xk_TooMany ?xb_TooMany ?xt_TooMany ?z_n_list ?z_n_range ?z0_NoThrow ?z1_NoThrow ?z2_NoThrow ?z3_NoThrow ?z4_NoThrow ?z5_NoThrow ?z6_NoThrow ?z7_NoThrow ?es_NoThrow_NoThrow ?yb_TooMany ?yi_TooMany ?yt_TooMany ?a_NoThrow___init__ ?i_NoThrow___init__ ?l_NoThrow___init__ ?c_NoThrow___init__ ?k_NoThrow___init__ ?a_Told___init__ ?i_Told___init__ ?l_Told___init__ ?c_Told___init__ ?k_Told___init__ ?a_Told_is_told ?i_Told_is_told ?l_Told_is_told ?c_Told_is_told ?k_Told_is_told ?a_Told_kept ?i_Told_kept ?l_Told_kept ?c_Told_kept ?k_Told_kept ?a_Told_after ?i_Told_after ?l_Told_after ?c_Told_after ?k_Told_after ?a_Die___init__ ?i_Die___init__ ?l_Die___init__ ?c_Die___init__ ?k_Die___init__ ?a_Die_is_told ?i_Die_is_told ?l_Die_is_told ?c_Die_is_told ?k_Die_is_told ?a_Die_after ?i_Die_after ?l_Die_after ?c_Die_after ?k_Die_after ?a_Die_sides ?i_Die_sides ?l_Die_sides ?c_Die_sides ?k_Die_sides ?a_Die_parts ?i_Die_parts ?l_Die_parts ?c_Die_parts ?k_Die_parts ?a_gone_on ?l_gone_on ?c_gone_on ?k_gone_on ?ch_gone_on ?nk_gone_on ?mt_gone_on ?a_behind ?l_behind ?c_behind ?k_behind ?a_both ?l_both ?c_both ?k_both ?ch_both ?nk_both ?mt_both ?nn_gone_on_both ?nm_both_gone_on ?a_drawn ?l_drawn ?c_drawn ?k_drawn ?a_divisor ?l_divisor ?c_divisor ?k_divisor ?a_share ?l_share ?c_share ?k_share ?a_plus ?l_plus ?c_plus ?k_plus ?a_times ?l_times ?c_times ?k_times ?a_leaves ?l_leaves ?c_leaves ?k_leaves ?a_table ?l_table ?c_table ?k_table ?a__law_make ?l__law_make ?c__law_make ?k__law_make ?ch__law_make ?nk__law_make ?mt__law_make ?nn_gone_on__law_make ?nm__law_make_gone_on ?nn_both__law_make ?nm__law_make_both ?a__law_node ?l__law_node ?c__law_node ?k__law_node ?a__law_cell ?l__law_cell ?c__law_cell ?k__law_cell ?a__law_mix ?l__law_mix ?c__law_mix ?k__law_mix ?a__law_digits ?l__law_digits ?c__law_digits ?k__law_digits ?a__law_take ?l__law_take ?c__law_take ?k__law_take ?a__law_kept ?l__law_kept ?c__law_kept ?k__law_kept ?a__law_tree ?l__law_tree ?c__law_tree ?k__law_tree ?a__law_divisor ?l__law_divisor ?c__law_divisor ?k__law_divisor ?a__law_lowest ?l__law_lowest ?c__law_lowest ?k__law_lowest ?a__law_sum ?l__law_sum ?c__law_sum ?k__law_sum ?a__law_product ?l__law_product ?c__law_product ?k__law_product ?a__law_walk ?l__law_walk ?c__law_walk ?k__law_walk ?a__law_doubled ?l__law_doubled ?c__law_doubled ?k__law_doubled ?a__law_way ?l__law_way ?c__law_way ?k__law_way ?a__law_both ?l__law_both ?c__law_both ?k__law_both ?a__law_gone_on ?l__law_gone_on ?c__law_gone_on ?k__law_gone_on ?a__law_go ?l__law_go ?c__law_go ?k__law_go ?ch__law_go ?nk__law_go ?mt__law_go ?nn_gone_on__law_go ?nm__law_go_gone_on ?nn_both__law_go ?nm__law_go_both ?nn__law_make__law_go ?nm__law_go__law_make ?a_law ?l_law ?c_law ?k_law) hmg
    (case aC_SpeakError => k_is)
    (case bi0_SpeakError => k_is)
    (case bi1_SpeakError => k_is)
    (case bi2_SpeakError => k_is)
    (case aC_NoThrow => k_is)
    (case ox_NoThrow => first | exact ⟨_, _, _, _, _, _, _, _, _, _, _, _, _, _, _, by k_is, by first | rfl | decide +kernel | k_is⟩ | exact ⟨_, _, _, _, _, _, _, _, _, _, _, _, _, _, _, rfl, by first | rfl | decide +kernel⟩)
    (case o0_NoThrow => k_is)
    (case o1_NoThrow => k_is)
    (case o2_NoThrow => k_is)
    (case o3_NoThrow => k_is)
    (case na_NoThrow_place => k_is)
    (case z_n_sorted => k_is)
    (case z_n_tuple => k_is)
    (case aC_Told => k_is)
    (case pg_Told => k_is)
    (case hd_Told => k_is)
    (case po_Told => k_is)
    (case sa_Told => k_is)
    (case mk_Told => k_is)
    (case kc_Told => k_is)
    (case na_Told_places => k_is)
    (case aC_Die => k_is)
    (case pg_Die => k_is)
    (case hd_Die => k_is)
    (case po_Die => k_is)
    (case sa_Die => k_is)
    (case mk_Die => k_is)
    (case kc_Die => k_is)
    (case na_Die_ways => k_is)
    (case z_n_bool => k_is)
    (case z_n_int => k_is)
    (case z_n_isinstance => k_is)
    (case z_n_sum => k_is)
    (case z_n_enumerate => k_is)
    (case z_n_len => k_is)
    (case yb_NoThrow => k_is)
    (case yi_NoThrow => k_is)
    (case yt_NoThrow => k_is)
    (case z_n_abs => k_is)
    (case z_g_MOST_WAYS => k_is)
    (case y_g_MOST_WAYS => exact ⟨_, rfl⟩)
    (case aC_TooMany => k_is)
    (case xx_TooMany => k_exc)
    (case xk_TooMany => k_is)
    (case xb_TooMany => k_is)
    (case xt_TooMany => k_is)
    (case z_n_list => k_is)
    (case z_n_range => k_is)
    (case z0_NoThrow => k_is)
    (case z1_NoThrow => k_is)
    (case z2_NoThrow => k_is)
    (case z3_NoThrow => k_is)
    (case z4_NoThrow => k_is)
    (case z5_NoThrow => k_is)
    (case z6_NoThrow => k_is)
    (case z7_NoThrow => k_is)
    (case es_NoThrow_NoThrow => first | rfl | k_is)
    (case yb_TooMany => k_is)
    (case yi_TooMany => k_is)
    (case yt_TooMany => k_is)
    (case a_NoThrow___init__ => k_is)
    (case i_NoThrow___init__ => k_is)
    (case l_NoThrow___init__ => k_is)
    (case c_NoThrow___init__ => k_is)
    (case k_NoThrow___init__ => k_is)
    (case a_Told___init__ => k_is)
    (case i_Told___init__ => k_is)
    (case l_Told___init__ => k_is)
    (case c_Told___init__ => k_is)
    (case k_Told___init__ => k_is)
    (case a_Told_is_told => k_is)
    (case i_Told_is_told => k_is)
    (case l_Told_is_told => k_is)
    (case c_Told_is_told => k_is)
    (case k_Told_is_told => k_is)
    (case a_Told_kept => k_is)
    (case i_Told_kept => k_is)
    (case l_Told_kept => k_is)
    (case c_Told_kept => k_is)
    (case k_Told_kept => k_is)
    (case a_Told_after => k_is)
    (case i_Told_after => k_is)
    (case l_Told_after => k_is)
    (case c_Told_after => k_is)
    (case k_Told_after => k_is)
    (case a_Die___init__ => k_is)
    (case i_Die___init__ => k_is)
    (case l_Die___init__ => k_is)
    (case c_Die___init__ => k_is)
    (case k_Die___init__ => k_is)
    (case a_Die_is_told => k_is)
    (case i_Die_is_told => k_is)
    (case l_Die_is_told => k_is)
    (case c_Die_is_told => k_is)
    (case k_Die_is_told => k_is)
    (case a_Die_after => k_is)
    (case i_Die_after => k_is)
    (case l_Die_after => k_is)
    (case c_Die_after => k_is)
    (case k_Die_after => k_is)
    (case a_Die_sides => k_is)
    (case i_Die_sides => k_is)
    (case l_Die_sides => k_is)
    (case c_Die_sides => k_is)
    (case k_Die_sides => k_is)
    (case a_Die_parts => k_is)
    (case i_Die_parts => k_is)
    (case l_Die_parts => k_is)
    (case c_Die_parts => k_is)
    (case k_Die_parts => k_is)
    (case a_gone_on => k_is)
    (case l_gone_on => k_is)
    (case c_gone_on => k_is)
    (case k_gone_on => k_is)
    (case ch_gone_on => kernel_rfl)
    (case nk_gone_on => kernel_rfl)
    (case mt_gone_on => kernel_rfl)
    (case a_behind => k_is)
    (case l_behind => k_is)
    (case c_behind => k_is)
    (case k_behind => k_is)
    (case a_both => k_is)
    (case l_both => k_is)
    (case c_both => k_is)
    (case k_both => k_is)
    (case ch_both => kernel_rfl)
    (case nk_both => kernel_rfl)
    (case mt_both => kernel_rfl)
    (case nn_gone_on_both => kernel_rfl)
    (case nm_both_gone_on => kernel_rfl)
    (case a_drawn => k_is)
    (case l_drawn => k_is)
    (case c_drawn => k_is)
    (case k_drawn => k_is)
    (case a_divisor => k_is)
    (case l_divisor => k_is)
    (case c_divisor => k_is)
    (case k_divisor => k_is)
    (case a_share => k_is)
    (case l_share => k_is)
    (case c_share => k_is)
    (case k_share => k_is)
    (case a_plus => k_is)
    (case l_plus => k_is)
    (case c_plus => k_is)
    (case k_plus => k_is)
    (case a_times => k_is)
    (case l_times => k_is)
    (case c_times => k_is)
    (case k_times => k_is)
    (case a_leaves => k_is)
    (case l_leaves => k_is)
    (case c_leaves => k_is)
    (case k_leaves => k_is)
    (case a_table => k_is)
    (case l_table => k_is)
    (case c_table => k_is)
    (case k_table => k_is)
    (case a__law_make => k_is)
    (case l__law_make => k_is)
    (case c__law_make => k_is)
    (case k__law_make => k_is)
    (case ch__law_make => kernel_rfl)
    (case nk__law_make => kernel_rfl)
    (case mt__law_make => kernel_rfl)
    (case nn_gone_on__law_make => kernel_rfl)
    (case nm__law_make_gone_on => kernel_rfl)
    (case nn_both__law_make => kernel_rfl)
    (case nm__law_make_both => kernel_rfl)
    (case a__law_node => k_is)
    (case l__law_node => k_is)
    (case c__law_node => k_is)
    (case k__law_node => k_is)
    (case a__law_cell => k_is)
    (case l__law_cell => k_is)
    (case c__law_cell => k_is)
    (case k__law_cell => k_is)
    (case a__law_mix => k_is)
    (case l__law_mix => k_is)
    (case c__law_mix => k_is)
    (case k__law_mix => k_is)
    (case a__law_digits => k_is)
    (case l__law_digits => k_is)
    (case c__law_digits => k_is)
    (case k__law_digits => k_is)
    (case a__law_take => k_is)
    (case l__law_take => k_is)
    (case c__law_take => k_is)
    (case k__law_take => k_is)
    (case a__law_kept => k_is)
    (case l__law_kept => k_is)
    (case c__law_kept => k_is)
    (case k__law_kept => k_is)
    (case a__law_tree => k_is)
    (case l__law_tree => k_is)
    (case c__law_tree => k_is)
    (case k__law_tree => k_is)
    (case a__law_divisor => k_is)
    (case l__law_divisor => k_is)
    (case c__law_divisor => k_is)
    (case k__law_divisor => k_is)
    (case a__law_lowest => k_is)
    (case l__law_lowest => k_is)
    (case c__law_lowest => k_is)
    (case k__law_lowest => k_is)
    (case a__law_sum => k_is)
    (case l__law_sum => k_is)
    (case c__law_sum => k_is)
    (case k__law_sum => k_is)
    (case a__law_product => k_is)
    (case l__law_product => k_is)
    (case c__law_product => k_is)
    (case k__law_product => k_is)
    (case a__law_walk => k_is)
    (case l__law_walk => k_is)
    (case c__law_walk => k_is)
    (case k__law_walk => k_is)
    (case a__law_doubled => k_is)
    (case l__law_doubled => k_is)
    (case c__law_doubled => k_is)
    (case k__law_doubled => k_is)
    (case a__law_way => k_is)
    (case l__law_way => k_is)
    (case c__law_way => k_is)
    (case k__law_way => k_is)
    (case a__law_both => k_is)
    (case l__law_both => k_is)
    (case c__law_both => k_is)
    (case k__law_both => k_is)
    (case a__law_gone_on => k_is)
    (case l__law_gone_on => k_is)
    (case c__law_gone_on => k_is)
    (case k__law_gone_on => k_is)
    (case a__law_go => k_is)
    (case l__law_go => k_is)
    (case c__law_go => k_is)
    (case k__law_go => k_is)
    (case ch__law_go => kernel_rfl)
    (case nk__law_go => kernel_rfl)
    (case mt__law_go => kernel_rfl)
    (case nn_gone_on__law_go => kernel_rfl)
    (case nm__law_go_gone_on => kernel_rfl)
    (case nn_both__law_go => kernel_rfl)
    (case nm__law_go_both => kernel_rfl)
    (case nn__law_make__law_go => kernel_rfl)
    (case nm__law_go__law_make => kernel_rfl)
    (case a_law => k_is)
    (case l_law => k_is)
    (case c_law => k_is)
    (case k_law => k_is)
#print axioms PySem.Challenge.cw_fewspeak_k15_one_behind_another_holds

