import PyProof.Rows.All
import Wide.All
import OpenK.AllK
import Wide.FinOn
import HandS.ForMost
import HandS.Wide
import HandS.IsInst
import HandS.Flow
import HandS.Walk
import HandS.Strs
import HandS.Style
import HandS.Exc
import HandS.Codes
import HandS.ForExc
import HandS.ExcIs
import HandS.Defaults
import HandS.ExcInit
import HandS.FStr
import HandS.ExcField
import HandS.TryOnly
import HandS.Conv
import HandS.TupAny
import HandS.Zip
import HandS.Deep
import HandS.TupLen
import HandS.SortKw
import HandS.RevRange
import HandS.ListItems
import HandS.SetFor
import HandS.More
import HandS.TupSets
import KE.KIntText
import KE.DataCmp
import KE.GoesZip
import KE.KDictZip
import Flt.Len
import PySem.Challenge.RW_dearsigns_k37_many_texts
set_option Elab.async false
set_option linter.all false
set_option maxRecDepth 100000
set_option maxHeartbeats 4000000

namespace Dear
open PySem PySem.Spec PyProof.Rows L2
/-! ### a def of the text, and a def with its promise -/
def Df (K : PySem.W.Frag) (mg : Str → Option Value) (x : Str) (st : Stmt) (ps : List Str) : Prop :=
  ∃ (f : Addr) (fd : FuncData), mg x = some (.ref f) ∧ Fun K x x st f fd ∧ Binds K fd ps []
/-- a def that the text calls by another name -/
def DfA (K : PySem.W.Frag) (mg : Str → Option Value) (y x : Str) (st : Stmt) (ps : List Str) : Prop :=
  ∃ (f : Addr) (fd : FuncData), mg y = some (.ref f) ∧ Fun K x x st f fd ∧ Binds K fd ps []
def OkF (P : Program) (w : World) (K : PySem.W.Frag) (mg : Str → Option Value) (base : Heap) (CX : CXT) (k : Nat) (x : Str) (ps : List Str) (sp : Sp) : Prop :=
  ∃ (f : Addr) (fd : FuncData), mg x = some (.ref f) ∧ PySem.W.keepIn K (.ref f) = true ∧ Binds K fd ps [] ∧ FnOk P w K mg base CX k f fd ps sp
section
variable {P : Program} {w : World} {K : PySem.W.Frag} {mg : Str → Option Value} {base : Heap}
theorem DfA.ok {y x : Str} {st : Stmt} {N ps : List Str} {k : Nat} {sp : Sp} (D : DfA K mg y x st ps) (S : FnScope N ps (defScope st)) (len : ∀ vs H Q E, sp vs H Q E → vs.length = ps.length)
    (hbody : ∀ (f : Addr) (cdv : Value) (A : Around) (outer : List Env) (s : Shared) (H : Hp) (vs : List V) (Q : VK) (E : XK), Room k (A.deeper (envOfC x (defScope st) s.heap.objs.size f cdv)) → sp vs H Q E →
      ∃ t, PSs (cxOf CX0 P w K mg base N x (defScope st) f cdv A outer s H E).nox (defBody st) t ∧ t { nx := fun _ H' => Q .non H', rt := Q } (start N vs) H) : OkF P w K mg base CX0 (k + 1) y ps sp := by
  obtain ⟨f, fd, hm, F, hb⟩ := D
  exact ⟨f, fd, hm, F.kp, hb, F.ok S len (hbody f)⟩
theorem Df.ok {x : Str} {st : Stmt} {N ps : List Str} {k : Nat} {sp : Sp} (D : Df K mg x st ps) (S : FnScope N ps (defScope st)) (len : ∀ vs H Q E, sp vs H Q E → vs.length = ps.length)
    (hbody : ∀ (f : Addr) (cdv : Value) (A : Around) (outer : List Env) (s : Shared) (H : Hp) (vs : List V) (Q : VK) (E : XK), Room k (A.deeper (envOfC x (defScope st) s.heap.objs.size f cdv)) → sp vs H Q E →
      ∃ t, PSs (cxOf CX0 P w K mg base N x (defScope st) f cdv A outer s H E).nox (defBody st) t ∧ t { nx := fun _ H' => Q .non H', rt := Q } (start N vs) H) : OkF P w K mg base CX0 (k + 1) x ps sp := by
  obtain ⟨f, fd, hm, F, hb⟩ := D
  exact ⟨f, fd, hm, F.kp, hb, F.ok S len (hbody f)⟩
end
section
variable {X : Cx}
theorem pe_c {k k' : Nat} {x : Str} {ps : List Str} {sp : Sp} {e : Expr} {es : List Expr} {t : TA} {p pos : Pos} (O : OkF X.prog X.w X.K X.mg X.base CX0 k x ps sp) (hr : Room k' X.A) (ha : PA X (e :: es) t) (hk : k ≤ k' := by decide) (hg : Gl X x := by rfl)
    (hdb : (x == ("__debug__" : Str)) = false := by decide) (he : starEach (e :: es) X.env = (false, eval e X.env) :: starEach es X.env := by rfl) (hpl : (backTo pos (starEach es X.env)).any (·.1) = false := by rfl) :
    PE X (.Call (.Name x p) (e :: es) [] pos) (tCall sp [] E0 t) := by
  obtain ⟨f, fd, hm, hkp, hb, F⟩ := O
  exact pe_call F (hr.mono hk) hg hm hkp hb .nil pass0 ha hdb he hpl
theorem pe_gi {x : Str} {i : Int} {pos : Pos} (h : ∃ t, X.mg x = some (.int i t)) (hg : Gl X x := by rfl) (hd : (x == ("__debug__" : Str)) = false := by decide) : PE X (.Name x pos) (tC (.int i)) := by
  obtain ⟨t, h⟩ := h
  exact pe_glob hg h ⟨_, rfl⟩ hd
theorem pe_gs {x : Str} {z : Str} {pos : Pos} (h : ∃ t, X.mg x = some (.str z t)) (hg : Gl X x := by rfl) (hd : (x == ("__debug__" : Str)) = false := by decide) : PE X (.Name x pos) (tC (.str z)) := by
  obtain ⟨t, h⟩ := h
  exact pe_glob hg h ⟨_, rfl⟩ hd
end
/-! ### the rules with the written part K named -/
section
variable {X : Cx} (K : PySem.W.Frag)
def rLen : List V → Hp → VK → Prop := fun xs H Q => ∃ p ys, xs = [.ref p] ∧ (SqL K H p ys ∨ SqT K H p ys) ∧ Q (.int ys.length) H
def rListOf : List V → Hp → VK → Prop := fun xs H Q => ∃ p ys, xs = [.ref p] ∧ (SqL K H p ys ∨ SqT K H p ys) ∧ ∀ l, H l = none → Q (.ref l) (upd H l (.lst ys))
def rTupOf : List V → Hp → VK → Prop := fun xs H Q => ∃ p ys, xs = [.ref p] ∧ ((SqL K H p ys ∧ ∀ l, H l = none → Q (.ref l) (upd H l (.tup ys))) ∨ (SqT K H p ys ∧ Q (.ref p) H))
theorem cr_all_k (hc : X.calm = true) (h : X.K = K := by rfl) : CallR X (.builtin "all") (rAll K) := h ▸ cr_all hc
theorem call_isi_k (h : X.K = K := by rfl) : CallR X (.builtin "isinstance") (rIsi K) := h ▸ call_isi
def rDictP : List V → Hp → VK → Prop := fun xs H Q => ∃ (a : Addr) (ps : List Addr) (kvs : List (Key × V)), xs = [.ref a] ∧ SqL K H a (ps.map V.ref) ∧ Paired (fun p kv => SqT K H p [kV kv.1, kv.2]) ps kvs ∧
    ∀ p, H p = none → Q (.ref p) (upd H p (.dK (mergeK [] kvs)))
theorem u1 {n : Nat} (h : n + 64 < cLine) : n + 1 < cLine := by omega
def rJoin : V → List V → Hp → VK → Prop := fun x xs H Q => ∃ a p, ∃ ys : List Str, x = .str a ∧ xs = [.ref p] ∧ (SqL K H p (ys.map V.str) ∨ SqT K H p (ys.map V.str)) ∧ (ys.map (·.length)).sum + ys.length * a.length ≤ 16777216 ∧ Q (.str (Txt.join a ys)) H
end
/-! ### heaps -/
/-- all that was tracked, but for what stands at l, is as it was -/
def But (l : Addr) (H H' : Hp) : Prop := ∀ b o, H b = some o → b ≠ l → H' b = some o
theorem But.refl (l : Addr) (H : Hp) : But l H H := fun _ _ h _ => h
theorem But.trans {l : Addr} {H H1 H2 : Hp} (a : But l H H1) (b : But l H1 H2) : But l H H2 := fun c o h n => b c o (a c o h n) n
theorem But.of {l : Addr} {H H1 : Hp} (a : Same H H1) : But l H H1 := fun c o h _ => a c o h
theorem But.upd {l : Addr} {H : Hp} {o : HO} : But l H (upd H l o) := fun b _ h n => by rw [upd_ne n]; exact h
theorem Same.upd {H : Hp} {l : Addr} {o : HO} (h : H l = none) : Same H (upd H l o) := fun b u e => by
  rw [upd_ne (ne_of_none e h)]
  exact e
theorem But.new {l : Addr} {H H1 : Hp} {p : Addr} {o : HO} (a : But l H H1) (h : H1 p = none) : But l H (L2.upd H1 p o) := a.trans (.of (Same.upd h))
theorem Same.new {H H1 : Hp} {p : Addr} {o : HO} (a : Same H H1) (h : H1 p = none) : Same H (L2.upd H1 p o) := a.trans (Same.upd h)
/-! ### readings, step by step -/
section
variable {σ : L2.St} {H : Hp} {D : Ends} {t1 t2 : TS} {te : TE} {i : Nat} {c : TT}
end
end Dear

namespace Dear
open PySem PySem.Spec PyProof.Rows L2
/-! ### an exception that is caught, kept in a name, and asked behind the suite -/
/-- a kept exception at a: its class, its own dict -/
def ExK (cls : Value) (d : Option Addr) (a : Addr) : HO := .ext fun h => ∃ (oe : Obj) (vs : Array Value), h.get? a = some oe ∧ Zc cls d oe ∧ oe.data = .fields vs
section
variable {X : Cx} {pins : List (Addr × Obj)} {σ : L2.St} {H : Hp} {s : Shared}
end
/-- what «except x as n: y = n» wishes of an exception of the body: n's slot is i, y's is j; behind it the exception stands tracked -/
def wKept (K : PySem.W.Frag) (c : Value) (i j : Nat) (Wout : WX) (D : Ends) : WX := fun cls d σ H =>
  ∃ b, PySem.W.exmOne K cls c = some b ∧ (b = true → ∀ a, H a = none → D.nx (((σ.set i (some (.ref a))).set j (some (.ref a))).set i none) (upd H a (ExK cls d a))) ∧ (b = false → Wout cls d σ H)
section
variable {X : Cx} {x n y : Str} {c : Value} {i j : Nat} {body : List Stmt} {np pos pos2 p3 p4 p5 : Pos} {tb : WX → TS} {Wout : WX}
end
/-! ### isinstance of a kept exception -/
def rIsX (K : PySem.W.Frag) : List V → Hp → VK → Prop := fun xs H Q => ∃ (a D : Addr) (c : V) (u : Value) (b : Bool), xs = [.ref a, c] ∧ H a = some (ExK (.ref D) none a) ∧ ExcC K D ∧ ClsV c u ∧ PySem.W.kitOne K (.ref D) u = some b ∧ Q (.bl b) H
def rIsXT (K : PySem.W.Frag) : List V → Hp → VK → Prop := fun xs H Q => ∃ (a D tp : Addr) (cs : List V) (us : List Value) (b : Bool), xs = [.ref a, .ref tp] ∧ H a = some (ExK (.ref D) none a) ∧ ExcC K D ∧ H tp = some (.tup cs) ∧ Paired ClsV cs us ∧ PySem.W.kitAny K (.ref D) us = some b ∧ Q (.bl b) H
section
variable {X : Cx} (K : PySem.W.Frag)
end
/-! ### facts of own exception classes, calls of defs that raise, defs with defaults -/
/-- an own exception class over ValueError, without an own __init__ -/
structure ExOwn (K : PySem.W.Frag) (mg : Str → Option Value) (x : Str) (C : Addr) : Prop where
  g : mg x = some (.ref C)
  x : PySem.W.excIn K C [.type "ValueError", .type "Exception", .type "BaseException", .type "object"] "ValueError.__new__" = true
  k : PySem.W.keepIn K (.ref C) = true
  b : PySem.W.subIn K (.ref C) (.type "BaseException") = some true
  t : PySem.W.typeIn K (.ref C) = some (.type "type")
  c : ExcC K C
/-- a def with defaults dvs, and with its promise -/
def DfD (K : PySem.W.Frag) (mg : Str → Option Value) (x : Str) (st : Stmt) (ps : List Str) (dvs : List V) : Prop :=
  ∃ (f : Addr) (fd : FuncData), mg x = some (.ref f) ∧ FunD K x x (defArgs st) (defBody st) (defScope st) dvs [] f fd ∧ (∃ ds, Vals dvs ds ∧ Binds K fd ps ds) ∧ Binds K fd ps []
def OkD (P : Program) (w : World) (K : PySem.W.Frag) (mg : Str → Option Value) (base : Heap) (CX : CXT) (k : Nat) (x : Str) (ps : List Str) (dvs : List V) (sp : Sp) : Prop :=
  ∃ (f : Addr) (fd : FuncData), mg x = some (.ref f) ∧ PySem.W.keepIn K (.ref f) = true ∧ (∃ ds, Vals dvs ds ∧ Binds K fd ps ds) ∧ Binds K fd ps [] ∧ FnOk P w K mg base CX k f fd ps sp
section
variable {P : Program} {w : World} {K : PySem.W.Frag} {mg : Str → Option Value} {base : Heap}
theorem DfD.ok {CX : CXT} {x : Str} {st : Stmt} {N ps : List Str} {dvs : List V} {k : Nat} {sp : Sp} (D : DfD K mg x st ps dvs) (S : FnScope N ps (defScope st)) (len : ∀ vs H Q E, sp vs H Q E → vs.length = ps.length)
    (hbody : ∀ (f : Addr) (cdv : Value) (A : Around) (outer : List Env) (s : Shared) (H : Hp) (vs : List V) (Q : VK) (E : XK), Room k (A.deeper (envOfC x (defScope st) s.heap.objs.size f cdv)) → sp vs H Q E →
      ∃ t, PSs (cxOf CX P w K mg base N x (defScope st) f cdv A outer s H E) (defBody st) t ∧ t { nx := fun _ H' => Q .non H', rt := Q } (start N vs) H) : OkD P w K mg base CX (k + 1) x ps dvs sp := by
  obtain ⟨f, fd, hm, F, hb, hb0⟩ := D
  exact ⟨f, fd, hm, F.kp, hb, hb0, F.ok S len (hbody f)⟩
end
section
variable {X : Cx} {k k' : Nat} {x : Str} {ps : List Str} {sp : Sp} {e : Expr} {es : List Expr} {t : TA} {p pos : Pos} {W : WX} {dvs : List V}
/-- the same, the defaults fill up -/
def tCallD (sp : Sp) (dvs : List V) (E : L2.St → XK) (t : TA) : TE := fun σ H Q => t σ H fun vs H1 => sp (vs ++ dvs) H1 Q (E σ)
end
end Dear

namespace Dear
open PySem PySem.Spec PyProof.Rows L2
/-! ### own exceptions with an own __init__: X(DearError), DearError.__init__(self, f'..{f}'), self.f = f -/
/-- what may stand in such a field -/
def FmtV (v : V) : Prop := v = .non ∨ (∃ y : Str, v = .str y ∧ y.length ≤ 900) ∨ ∃ i : Int, v = .int i ∧ i.natAbs < 2 ^ 64
section
variable {X : Cx}
/-- {x} of None, a text, a number: some short text -/
def tFmtN (te : TE) : TE := fun σ H Q => te σ H fun x H1 => FmtV x ∧ ∀ z : Str, z.length ≤ 900 → Q (.str z) H1
end
/-- C.__init__ of an own exception class without an own one is ValueError's -/
structure DrI (K : PySem.W.Frag) (mg : Str → Option Value) (x : Str) (C : Addr) : Prop where
  g : mg x = some (.ref C)
  s : PySem.W.specialIn K (.ref C) "__getattribute__" = some (some (.builtin "type.__getattribute__"))
  r : PySem.W.readsIn K C (.type "type") = true
  v : PySem.W.findCls K (.ref C) (.type "type") "__init__" = some (.val (.builtin "ValueError.__init__"))
section
variable {X : Cx}
end
/-- the promise of such an __init__ -/
def spExI (f : Str) (K : PySem.W.Frag) : Sp := fun vs H Q _ => ∃ (a C : Addr) (v : V), vs = [.ref a, v] ∧ OexC K C ∧ PySem.W.findIn K (.ref C) f = some none ∧ H a = some (exo a C none) ∧ FmtV v ∧
  ∀ dx, H dx = none → dx ≠ a → Q .non (upd (upd H dx (exd dx [(f, v)])) a (exo a C (some dx)))
/-- what the written part says of the class at C -/
structure ExInit (K : PySem.W.Frag) (mg : Str → Option Value) (x f : Str) (C : Addr) : Prop where
  g : mg x = some (.ref C)
  o : OexC K C
  n : PySem.W.findIn K (.ref C) f = some none
  c : ExcC K C
def OkI (P : Program) (w : World) (K : PySem.W.Frag) (mg : Str → Option Value) (base : Heap) (x f : Str) (C : Addr) : Prop :=
  ∃ (fI : Addr) (fd : FuncData), PySem.W.findIn K (.ref C) "__init__" = some (some (.ref fI)) ∧ PySem.W.typeIn K (.ref fI) = some (.type "function") ∧ FnOk P w K mg base CX0 1 fI fd ["self", f] (spExI f K) ∧ Binds K fd ["self", f] [] ∧ ExInit K mg x f C
/-- the def __init__ of the class at C -/
def DfI (K : PySem.W.Frag) (C : Addr) (q : Str) (st : Stmt) (f : Str) : Prop := ∃ (fI : Addr) (fd : FuncData), PySem.W.findIn K (.ref C) "__init__" = some (some (.ref fI)) ∧ PySem.W.typeIn K (.ref fI) = some (.type "function") ∧ Fun K "__init__" q st fI fd ∧ Binds K fd ["self", f] []
section
variable {X : Cx}
end
/-! ### a kept exception with a dict: isinstance, its field -/
/-- the exception of the class D at a, with its dict or without -/
def ExAt (H : Hp) (D a : Addr) : Prop := H a = some (ExK (.ref D) none a) ∨ ∃ (dd : Addr) (fs : List (Str × V)), H a = some (ExK (.ref D) (some dd) a) ∧ H dd = some (.xd fs)
section
variable {prog : Program} {w : World} {A : Around} {E : Value → Shared → Prop} {s : Shared} {K : PySem.W.Frag} {x D : Addr} {ox : Obj} {od : Option Obj}
end
def rIsY (K : PySem.W.Frag) : List V → Hp → VK → Prop := fun xs H Q => ∃ (a D : Addr) (c : V) (u : Value) (b : Bool), xs = [.ref a, c] ∧ ExAt H D a ∧ ExcC K D ∧ ClsV c u ∧ PySem.W.kitOne K (.ref D) u = some b ∧ Q (.bl b) H
def rIsYT (K : PySem.W.Frag) : List V → Hp → VK → Prop := fun xs H Q => ∃ (a D tp : Addr) (cs : List V) (us : List Value) (b : Bool), xs = [.ref a, .ref tp] ∧ ExAt H D a ∧ ExcC K D ∧ H tp = some (.tup cs) ∧ Paired ClsV cs us ∧ PySem.W.kitAny K (.ref D) us = some b ∧ Q (.bl b) H
section
variable {X : Cx} {pins : List (Addr × Obj)} {σ : L2.St} {H : Hp} {s : Shared}
end
section
variable {X : Cx} (K : PySem.W.Frag)
/-- e.f, e a kept exception -/
def tXfK (K : PySem.W.Frag) (f : Str) (te : TE) : TE := fun σ H Q => te σ H fun x H1 => ∃ (a C dd : Addr) (fs : List (Str × V)) (v : V), x = .ref a ∧ H1 a = some (ExK (.ref C) (some dd) a) ∧ H1 dd = some (.xd fs) ∧ ExcC K C ∧ PySem.W.findIn K (.ref C) f = some none ∧ fs.lookup f = some v ∧ Q v H1
end
end Dear

namespace Dear
open PySem PySem.Spec PyProof.Rows L2
/-! ### own classes: making an object, its methods; both may raise -/
def DfM (K : PySem.W.Frag) (C : Addr) (m q : Str) (st : Stmt) (ps : List Str) : Prop := ∃ (f : Addr) (fd : FuncData), Meth K C m f ∧ Fun K m q st f fd ∧ Binds K fd ps []
def DfC (K : PySem.W.Frag) (mg : Str → Option Value) (x : Str) (C : Addr) (q : Str) (st : Stmt) (ps : List Str) : Prop := mg x = some (.ref C) ∧ ∃ (f : Addr) (fd : FuncData), L2.Mk K C f ∧ Fun K "__init__" q st f fd ∧ Binds K fd ps []
def OkM (P : Program) (w : World) (K : PySem.W.Frag) (mg : Str → Option Value) (base : Heap) (CX : CXT) (k : Nat) (C : Addr) (m : Str) (ps : List Str) (sp : Sp) : Prop :=
  ∃ (f : Addr) (fd : FuncData), Meth K C m f ∧ Binds K fd ps [] ∧ FnOk P w K mg base CX k f fd ps sp
def OkC (P : Program) (w : World) (K : PySem.W.Frag) (mg : Str → Option Value) (base : Heap) (CX : CXT) (k : Nat) (x : Str) (C : Addr) (ps : List Str) (sp : Sp) : Prop :=
  mg x = some (.ref C) ∧ ∃ (f : Addr) (fd : FuncData), L2.Mk K C f ∧ Binds K fd ps [] ∧ FnOk P w K mg base CX k f fd ps sp
section
variable {P : Program} {w : World} {K : PySem.W.Frag} {mg : Str → Option Value} {base : Heap} {C : Addr} {x m q : Str} {st : Stmt} {N ps : List Str} {k : Nat} {sp : Sp}
theorem DfM.ok (D : DfM K C m q st ps) (S : FnScope N ps (defScope st)) (len : ∀ vs H Q E, sp vs H Q E → vs.length = ps.length)
    (body : ∀ (f : Addr) (cdv : Value) (A : Around) (outer : List Env) (s : Shared) (H : Hp) (vs : List V) (Q : VK) (E : XK), Room k (A.deeper (envOfC q (defScope st) s.heap.objs.size f cdv)) → sp vs H Q E →
      ∃ t, PSs (cxOf CX0 P w K mg base N q (defScope st) f cdv A outer s H E).nox (defBody st) t ∧ t { nx := fun _ H' => Q .non H', rt := Q } (start N vs) H) : OkM P w K mg base CX0 (k + 1) C m ps sp := by
  obtain ⟨f, fd, hm, F, hb⟩ := D
  exact ⟨f, fd, hm, hb, F.ok S len (body f)⟩
theorem DfC.ok (D : DfC K mg x C q st ps) (S : FnScope N ps (defScope st)) (len : ∀ vs H Q E, sp vs H Q E → vs.length = ps.length)
    (body : ∀ (f : Addr) (cdv : Value) (A : Around) (outer : List Env) (s : Shared) (H : Hp) (vs : List V) (Q : VK) (E : XK), Room k (A.deeper (envOfC q (defScope st) s.heap.objs.size f cdv)) → sp vs H Q E →
      ∃ t, PSs (cxOf CX0 P w K mg base N q (defScope st) f cdv A outer s H E).nox (defBody st) t ∧ t { nx := fun _ H' => Q .non H', rt := Q } (start N vs) H) : OkC P w K mg base CX0 (k + 1) x C ps sp := by
  obtain ⟨g, f, fd, hm, F, hb⟩ := D
  exact ⟨g, f, fd, hm, hb, F.ok S len (body f)⟩
end
/-- o.m(..), the way out for a raise told at the names' values -/
def tMethX (C : Addr) (m : Str) (sp : Sp) (E : L2.St → XK) (ta : TE) (t : TA) : TE := fun σ H Q => ta σ H fun x H1 => ∃ a dx fs, x = .ref a ∧ H1 a = some (.ins C dx fs) ∧ fs.lookup m = none ∧ t σ H1 fun vs H2 => sp (x :: vs) H2 Q (E σ)
def tMakeX (C : Addr) (sp : Sp) (E : L2.St → XK) (t : TA) : TE := fun σ H Q => t σ H fun vs H1 => ∀ x dx, H1 x = none → H1 dx = none → dx ≠ x → sp (.ref x :: vs) (upd (upd H1 dx (.own x)) x (.ins C dx [])) (fun v H2 => v = .non ∧ Q (.ref x) H2) (E σ)
section
variable {X : Cx} {k k' : Nat} {C : Addr} {x m : Str} {ps : List Str} {sp : Sp} {o e : Expr} {es : List Expr} {ta : TE} {t : TA} {p pos apos : Pos} {W : WX}
end
/-- text += text, on an attribute -/
def rAddT : V → V → Hp → VK → Prop := fun x y H Q => ∃ i j, x = .str i ∧ y = .str j ∧ i.length + j.length ≤ sizeLine ∧ Q (.str (i ++ j)) H
end Dear

namespace Dear
open PySem PySem.Spec PyProof.Rows L2
/-! ### the set of a list of texts (any number), and how many it has -/
def dd1 (m : List Str) (v : Str) : List Str := if v ∈ m then m else m ++ [v]
def dd (xs : List Str) : List Str := xs.foldl dd1 []
theorem dd_le : ∀ (xs m : List Str), (xs.foldl dd1 m).length ≤ m.length + xs.length
  | [], m => by simp
  | v :: r, m => by
    rw [List.foldl_cons]
    have h1 := dd_le r (dd1 m v)
    have h2 : (dd1 m v).length ≤ m.length + 1 := by
      unfold dd1
      split
      · omega
      · simp
    rw [List.length_cons]
    omega
theorem dd_more {xs : List Str} {i : Nat} {v : Str} (h : xs[i]? = some v) : dd (xs.take (i + 1)) = dd1 (dd (xs.take i)) v := by
  unfold dd
  rw [List.take_succ, h, List.foldl_append]
  rfl
/-- unlike ones: as many as there are -/
theorem dd_nodup : ∀ {xs : List Str} (m : List Str), (m ++ xs).Nodup → xs.foldl dd1 m = m ++ xs
  | [], m, _ => by simp
  | v :: r, m, h => by
    have hv : ¬ v ∈ m := fun z => by
      have := List.nodup_append.mp h
      exact this.2.2 v z v List.mem_cons_self rfl
    rw [List.foldl_cons]
    have e : dd1 m v = m ++ [v] := if_neg hv
    rw [e, dd_nodup (m ++ [v]) (by rw [List.append_assoc]; exact h), List.append_assoc]
    rfl
/-! ### a set of texts that can be walked -/
def signE (e : Int × Value) : Str := match e.2 with | .str z _ => z | _ => Str.empty
def TextE (P : Program) (w : World) (e : Int × Value) : Prop := ∃ z tk, e.2 = Value.str z tk ∧ e.1 = (PySem.strKind P w).hash z
/-- at a lies the set of the texts m -/
def SetW (P : Program) (w : World) (h : Heap) (a : Addr) (m : List Str) : Prop :=
  ∃ ob ms n tb, h.get? a = some ob ∧ ob.ExactSet ∧ ob.data = .set ms n tb ∧ (∀ e ∈ ms.toList, TextE P w e) ∧ (ms.toList.map signE).Perm m ∧
    ms.size < scanBound ∧ tb.fits ms.size = true ∧ Ris tb.place.toList ∧ (w.params.followText "set-order" = true ∨ tb.led = true)
section
variable {P : Program} {w : World} {A : Around} {E : Value → Shared → Prop} {s : Shared} {a : Addr} {m : List Str}
theorem text_elems {l : List (Int × Value)} (g : ∀ e ∈ l, TextE P w e) : ElemsOf (PySem.strKind P w) l := fun e he => by
  obtain ⟨z, tk, e1, e2⟩ := g e he
  exact ⟨⟨z, by rw [e1]; exact strKind_is P w z tk, e2⟩, by rw [e1]; rfl⟩
theorem text_is {e : Int × Value} (g : TextE P w e) (z : Str) : (PySem.strKind P w).is z e.2 = true ↔ signE e = z := by
  obtain ⟨y, tk, e1, _⟩ := g
  unfold signE
  rw [e1]
  show ((y == z) = true) ↔ y = z
  exact beq_iff_eq
/-- behind the laying: the table may be laid anew -/
theorem add_rest {gave : Bool → Sem Unit} (hg : ∀ (b : Bool) (s1 : Shared) (Q1 : Unit → Shared → Prop), Q1 () s1 → wpAny (model P w) A (gave b) Q1 E s1)
    {ob : Obj} {ms : Array (Int × Value)} {n : Nat} {tb : SetTable} (at0 : s.heap.get? a = some ob) (ex : ob.ExactSet) (da : ob.data = .set ms n tb)
    {ms1 : Array (Int × Value)} {tb1 : SetTable} (te : ∀ e ∈ ms1.toList, TextE P w e) (pm1 : (ms1.toList.map signE).Perm m)
    (few : ms1.size < scanBound) (fit : tb1.fits ms1.size = true) (ris : Ris tb1.place.toList) (led : w.params.followText "set-order" = true ∨ tb1.led = true) {dum : Bool} {R : Option Bool → Shared → Prop}
    (hR : ∀ h1, Heap.SameBut a s.heap h1 → SetW P w h1 a m → R (some true) { s with heap := h1 }) :
    wpAny (model P w) A (do
        storeSet a ms1 tb1
        if (!dum && tb1.tooFull) = true then do
            gave (relayAll tb1 ms1 (SetTable.grown ms1.size)).2.2
            storeSet a (relayAll tb1 ms1 (SetTable.grown ms1.size)).1 (relayAll tb1 ms1 (SetTable.grown ms1.size)).2.1
            pure (some true)
          else pure (some true)) R E s := by
  refine wpAny_bind (wpAny_storeSet_of at0 da ?_ (fits_of_scanBound few))
  have at1 := store_at (es' := ms1) (t' := tb1) at0 da
  have same1 := Heap.SameBut.update s.heap a (Obj.putSet ms1 tb1)
  split
  · have q1 := relayAll_perm tb1 ms1 (SetTable.grown ms1.size)
    have q2 := relayAll_fits tb1 ms1 (SetTable.grown ms1.size)
    have q3 := relayAll_ris tb1 ms1 (SetTable.grown ms1.size)
    have q4 := relayAll_led tb1 ms1 (SetTable.grown ms1.size)
    generalize relayAll tb1 ms1 (SetTable.grown ms1.size) = Z at q1 q2 q3 q4 ⊢
    obtain ⟨ms2, tb2, gv⟩ := Z
    dsimp only at q1 q2 q3 q4 ⊢
    have sz : ms2.size = ms1.size := by rw [← Array.length_toList, q1.length_eq, Array.length_toList]
    have few2 : ms2.size < scanBound := by rw [sz]; exact few
    refine wpAny_bind (hg _ _ _ ?_)
    refine wpAny_bind (wpAny_storeSet_of at1 rfl ?_ (fits_of_scanBound few2))
    have at2 := store_at (es' := ms2) (t' := tb2) at1 rfl
    refine wpAny_pure (hR _ (same1.trans (Heap.SameBut.update _ a _)) ?_)
    exact ⟨_, ms2, _, tb2, at2, ex, rfl, fun e he => te e (q1.mem_iff.mp he), (q1.map signE).trans pm1, few2, q2, q3, led.imp id fun z => by rw [q4]; exact z⟩
  · exact wpAny_pure (hR _ same1 ⟨_, ms1, _, tb1, at1, ex, rfl, te, pm1, few, fit, ris, led⟩)
theorem setW_add {k : Str} {tk : Tok} {Q : Bool → Shared → Prop} (W : SetW P w s.heap a m) (room : m.length + 1 < scanBound)
    (hQ : ∀ h1 b, Heap.SameBut a s.heap h1 → SetW P w h1 a (dd1 m k) → Q b { s with heap := h1 }) :
    wpAny (model P w) A (setAddHashed a (.str k tk) ((PySem.strKind P w).hash k)) Q E s := by
  obtain ⟨ob, ms, n, tb, at0, ex, da, te, pm, few, fit, ris, led⟩ := W
  have isk : (PySem.strKind P w).is k (.str k tk) = true := strKind_is P w k tk
  have sc : (Value.str k tk).scannable = true := rfl
  have el : ElemsOf (PySem.strKind P w) ms.toList := text_elems te
  unfold setAddHashed setAddHashedIn
  refine wpAny_holding (wpAny_bind (wpAny_setState_of at0 da fit ?_))
  dsimp only
  rw [byScan_of sc few el]
  simp only [↓reduceIte]
  unfold setAddByScan
  refine wpAny_bind (wpAny_bind (wpAny_rule (wpAny_bind (wpAny_setScan_of isk at0 da fit el ?_))))
  cases found : List.findIdx? (fun e => (PySem.strKind P w).is k e.2) ms.toList with
  | some j =>
    dsimp only
    obtain ⟨lt, ej, _⟩ := List.findIdx?_eq_some_iff_getElem.mp found
    have km : k ∈ m := pm.mem_iff.mp (List.mem_map.mpr ⟨_, List.getElem_mem lt, (text_is (te _ (List.getElem_mem lt)) k).mp ej⟩)
    refine wpAny_pure (wpAny_pure ?_)
    refine hQ s.heap _ (Heap.SameBut.refl a s.heap) ⟨ob, ms, n, tb, at0, ex, da, te, ?_, few, fit, ris, led⟩
    unfold dd1
    rw [if_pos km]
    exact pm
  | none =>
    dsimp only
    have km : k ∉ m := fun z => by
      obtain ⟨e, he, q⟩ := List.mem_map.mp (pm.mem_iff.mpr z)
      have c := List.findIdx?_eq_none_iff.mp found e he
      rw [(text_is (te e he) k).mpr q] at c
      cases c
    have q1 := layNew_perm tb ms ((PySem.strKind P w).hash k) (.str k tk)
    have q2 := layNew_fits tb ms ((PySem.strKind P w).hash k) (.str k tk)
    have q3 := layNew_ris tb ms ((PySem.strKind P w).hash k) (.str k tk) ris
    have q4 := layNew_led tb ms ((PySem.strKind P w).hash k) (.str k tk)
    generalize layNew tb ms ((PySem.strKind P w).hash k) (.str k tk) = Z at q1 q2 q3 q4 ⊢
    obtain ⟨ms1, tb1, dum, gv⟩ := Z
    dsimp only at q1 q2 q3 q4 ⊢
    rw [Array.toList_push] at q1
    have te1 : ∀ e ∈ ms1.toList, TextE P w e := fun e he => by
      rcases List.mem_append.mp (q1.mem_iff.mp he) with z | z
      · exact te e z
      · rw [List.mem_singleton.mp z]
        exact ⟨k, tk, rfl, rfl⟩
    have pm1 : (ms1.toList.map signE).Perm (dd1 m k) := by
      have q := q1.map signE
      rw [List.map_append] at q
      unfold dd1
      rw [if_neg km]
      exact q.trans (pm.append_right _)
    have sz : ms1.size = m.length + 1 := by
      rw [← Array.length_toList, q1.length_eq, List.length_append, ← pm.length_eq, List.length_map]
      rfl
    have few1 : ms1.size < scanBound := by rw [sz]; exact room
    have led1 : w.params.followText "set-order" = true ∨ tb1.led = true := led.imp id fun z => by rw [q4]; exact z
    refine wpAny_bind (?_ : wpAny _ _ (match gv with | true => rule "set.scan.the-table-gave-way" | false => pure ()) _ _ _)
    have hgv : ∀ (b : Bool) {s1 : Shared} {Q1 : Unit → Shared → Prop}, Q1 () s1 → wpAny (model P w) A (match b with | true => rule "set.scan.the-table-gave-way" | false => pure ()) Q1 E s1 := fun b s1 Q1 q => by
      cases b
      · exact wpAny_pure q
      · exact wpAny_rule q
    refine hgv _ ?_
    split
    · refine wpAny_bind ?_
      rw [hashByValue_scannable 8 sc]
      refine wpAny_pure ?_
      refine add_rest ?_ at0 ex da te1 pm1 few1 ?_ ?_ ?_ ?_
      · intro b s1 Q1 q; cases b <;> first | exact wpAny_pure q | exact wpAny_rule q
      · first | (split <;> first | exact q2 | exact SetTable.fits_plain_off q2) | exact q2
      · first | (split <;> exact q3) | exact q3
      · first | (split <;> exact led1) | exact led1
      · intro h1 sb r; dsimp only; exact wpAny_pure (hQ h1 _ sb r)
    · refine wpAny_bind (wpAny_pure ?_)
      simp only [↓reduceIte]
      refine add_rest ?_ at0 ex da te1 pm1 few1 q2 q3 led1 ?_
      · intro b s1 Q1 q; cases b <;> first | exact wpAny_pure q | exact wpAny_rule q
      · intro h1 sb r; dsimp only; exact wpAny_pure (hQ h1 _ sb r)
/-- a new set -/
theorem new_set (x : Value) {Q1 : Value → Shared → Prop}
    (q : ∀ tb : SetTable, tb = .fresh 0 0 (!w.params.followText "set-order") → Q1 (.ref s.heap.objs.size) { s with heap := s.heap.push { cls := .type "set", dict := none, data := .set #[] 0 tb } }) :
    codeAny (model P w) A (.call (.builtin "set.__new__") ⟨[.type "set", x], []⟩) (wants Q1 E) s := by
  refine codeAny_of_tree (?_ : wpAny _ A.in1 (do checkBuiltinCall "set.__new__" ⟨[.type "set", x], []⟩; again (.builtin "set.__new__" ⟨[.type "set", x], []⟩)) _ _ s)
  refine wpAny_bind (wpAny_of_eq (PySem.F.newCall_set_1 x) (wpAny_pure ⟨plainId_quiet PySem.F.plain_set_new _, codeAny_builtin PySem.F.entry_set_new (?_ : wpAny _ _ _ _ _ s)⟩))
  rw [Around.under_plainId PySem.F.plain_set_new _]
  have below := sub_set_self
  unfold Builtin.«set.__new__» Builtin.Frozenset.newClass
  obtain ⟨h0, g0, d0, t0, o0⟩ := s
  dsimp only
  wp_walk
  refine wpAny_askSetting (wpAny_pure ?_)
  dsimp only
  simp only [newObj]
  exact wpAny_bind (wpAny_alloc (wpAny_pure (wpAny_pure (q _ rfl))))
theorem setW_fresh {h : Heap} (g : h.get? a = some { cls := .type "set", dict := none, data := .set #[] 0 (.fresh 0 0 (!w.params.followText "set-order")) }) : SetW P w h a [] := by
  refine ⟨_, #[], 0, _, g, ⟨rfl, rfl, rfl⟩, rfl, (fun e he => by simp at he), (by simp), (by decide), (by rfl), List.Pairwise.nil, ?_⟩
  show _ ∨ (!w.params.followText "set-order") = true
  cases w.params.followText "set-order"
  · exact .inr rfl
  · exact .inl rfl
end
section
variable {prog : Program} {w : World} {A : Around} {R : Result → Shared → Prop} {I : Addr} {fp wr : List Addr} {G : Array GenState → Array GenState → Prop} {n : Nat} {Pn : Nat → Value → Prop} {St : Nat → Shared → Prop}
/-- S holds the unlike ones of the first i -/
def SetAtS (prog : Program) (w : World) (h : Heap) (S : Addr) (xs : List Str) : Prop := SetW prog w h S (dd xs)
theorem set_loop (W : WalksS prog w A.in1 I fp wr G n Pn St) (S : Addr) (out : S ∉ fp) (xs : List Str) (size : xs.length = n) (room : n + 1 < scanBound)
    (vals : ∀ i v, Pn i v → ∃ t, v = .str (xs.getD i Str.empty) t) :
    ∀ (m i : Nat) (s : Shared), i + m = n → St i s → SetAtS prog w s.heap S (xs.take i) →
      (∀ s', Moved (S :: wr) G s s' → SetAtS prog w s'.heap S xs → R (.ok (.ret .none)) s') →
      codeAny (model prog w) A (.builtin "set.update.loop" ⟨[.ref S, .ref I], []⟩) R s := by
  have outw : S ∉ wr := fun z => out (W.sub _ z)
  have more : ∀ b ∈ wr, b ∈ S :: wr := fun b z => List.mem_cons_of_mem _ z
  have stay : ∀ {s s' : Shared} {ys : List Str}, Moved wr G s s' → SetAtS prog w s.heap S ys → SetAtS prog w s'.heap S ys := fun mv hS => by
    obtain ⟨o, es, ep, tb, ho, rest⟩ := hS
    exact ⟨o, es, ep, tb, mv.heap S _ outw ho, rest⟩
  intro m
  induction m with
  | zero =>
    intro i s im hst hS hR
    have ei : i = n := by omega
    subst ei
    rw [← size, List.take_length] at hS
    refine codeAny_builtin PyProof.Rows.F.entry_set_update_loop (?_ : wpAny _ _ _ _ _ s)
    rw [Around.under_plainId PyProof.Rows.F.plain_set_update_loop _]
    show wpAny _ A.in1 (pyNext (.ref I) >>= _) _ _ s
    exact wpAny_bind (W.done s _ _ hst fun s' mv => wpAny_pure (hR s' (mv.mono more) (stay mv hS)))
  | succ m ih =>
    intro i s im hst hS hR
    have lt : i < n := by omega
    refine codeAny_builtin PyProof.Rows.F.entry_set_update_loop (?_ : wpAny _ _ _ _ _ s)
    rw [Around.under_plainId PyProof.Rows.F.plain_set_update_loop _]
    show wpAny _ A.in1 (pyNext (.ref I) >>= _) _ _ s
    refine wpAny_bind (W.item i s _ _ lt hst fun v s1 pv st1 mv => ?_)
    obtain ⟨t, rfl⟩ := vals i v pv
    have e : xs[i]? = some (xs.getD i Str.empty) := by
      rw [List.getD_eq_getElem?_getD, List.getElem?_eq_getElem (by omega)]
      rfl
    generalize xs.getD i Str.empty = x at e
    have hS1 := stay mv hS
    show wpAny _ A.in1 (holding [Value.str x t] (setAdd S (.str x t)) >>= _) _ _ s1
    refine wpAny_bind (wpAny_holding ?_)
    unfold setAdd
    refine wpAny_holding (wpAny_bind ((PySem.strKind prog w).pyHash (k := x) (strKind_is _ _ _ _) ?_))
    have few : (dd (xs.take i)).length + 1 < scanBound := by
      have := dd_le (xs.take i) []
      have h2 : (xs.take i).length ≤ n := by rw [List.length_take]; omega
      have h3 : (dd (xs.take i)).length ≤ (xs.take i).length := by simpa [dd] using this
      omega
    refine setW_add (s := { s1 with toks := s1.toks + 1 }) hS1 few fun h2 _ same hS2 => ?_
    have next : SetAtS prog w h2 S (xs.take (i + 1)) := by
      unfold SetAtS
      rw [dd_more e]
      exact hS2
    refine wpAny_pure ⟨plainId_quiet PyProof.Rows.F.plain_set_update_loop _, ih (i + 1) _ (by omega) (W.frame _ s1 _ _ st1 (Nat.le_succ _) fun b hb o z => ?_) next fun s3 mv3 hS3 => hR s3 (Moved.trans W.gtrans ((mv.mono more).then_heap (Nat.le_succ _) fun b o hb z => ?_) mv3) hS3⟩
    · rw [same.2 b fun q => out (q ▸ hb)]
      exact z
    · rw [same.2 b fun q => hb (q ▸ List.mem_cons_self)]
      exact z
end
section
variable {prog : Program} {w : World} {A : Around} {E : Value → Shared → Prop} {s : Shared}
/-- an empty set, new -/
abbrev set0 (led : Bool) : Obj := { cls := .type "set", dict := none, data := .set #[] 0 (.fresh 0 0 led) }
set_option maxHeartbeats 3200000 in
/-- set(xs), xs a list of texts -/
theorem set_of_list {l : Addr} {its : Array Value} {xs : List Str} {Q : Value → Shared → Prop} (calm : A.handled = none) (hl : s.heap.IsList l its) (hi : StrsAre its.toList xs) (room : xs.length + 1 < scanBound)
    (q : ∀ (h2 : Heap) (tk : Nat), SetAtS prog w h2 s.heap.objs.size xs → (∀ b o, b < s.heap.objs.size → s.heap.get? b = some o → h2.get? b = some o) → Q (.ref s.heap.objs.size) { s with heap := h2, toks := tk }) :
    wpAny (model prog w) A (call (.type "set") [.ref l]) Q E s := by
  obtain ⟨_, _, way⟩ := PySem.F.called_set.mro
  have f1 := PySem.F.called_set.made
  have f2 := PySem.F.called_set.sub
  have f3 := PySem.F.called_set.notType
  have f4 := PySem.F.called_set.canCreate
  have f5 := PySem.F.typeCall_set_1 (.ref l)
  refine wpAny_call (codeAny_of_tree (?_ : wpAny _ _ (callAny (.type "set") _) _ _ _))
  refine wpAny_pure ⟨Code.quiet_builtin _ (by decide +kernel), codeAny_builtin PySem.F.entry_type_call (?_ : wpAny _ _ _ _ _ _)⟩
  rw [Around.under_plain (weight_type_call_type "set" [.ref l] []) rfl]
  repeat (any_goals (first | assumption | wp_step))
  refine codeAny_mono (new_set (.ref l) (E := E) (Q1 := fun u s1 => ∃ led : Bool, u = .ref s.heap.objs.size ∧ s1 = { s with heap := s.heap.push (set0 led) } ∧ led = !w.params.followText "set-order") fun tb e => ⟨_, rfl, by rw [e], rfl⟩) fun r s1 hr => ?_
  cases r with
  | error e => exact hr
  | ok fl =>
    cases fl with
    | next => exact hr.elim
    | brk => exact hr.elim
    | cont => exact hr.elim
    | ret u =>
      obtain ⟨led, rfl, rfl, eled⟩ := hr
      have g0 : (s.heap.push (set0 led)).get? s.heap.objs.size = some (set0 led) := Heap.get?_push_size _ rfl
      have ty : Shared.TypeIs { s with heap := s.heap.push (set0 led) } (.ref s.heap.objs.size) "set" := ⟨_, g0, rfl⟩
      have f6 := PySem.F.called_set.init.lookup
      have f7 := PySem.F.called_set.init.bind (.ref s.heap.objs.size)
      repeat (any_goals (first | assumption | wp_step))
      refine codeAny_mono (codeAny_call_builtin (R := wants (fun r s2 => r = .none ∧ ∃ h2 tk, s2 = { s with heap := h2, toks := tk } ∧ SetAtS prog w h2 s.heap.objs.size xs ∧ (∀ b o, b < s.heap.objs.size → s.heap.get? b = some o → h2.get? b = some o)) E)
        PySem.F.called_set.init.plain PySem.F.entry_set_init (check_set_init_1 ty ?_)) fun r2 s2 hr2 => ?_
      · obtain ⟨⟨c, d, da, sl⟩, ol, cl, nl, dl⟩ := hl
        simp only at cl dl
        subst cl dl
        have ol1 : (s.heap.push (set0 led)).get? l = some { cls := .type "list", dict := d, data := .seq its nl, slots := sl } := Heap.get?_push_of_some _ ol
        have f8 := PySem.F.sub_list_set
        have f9 := PySem.F.sub_list_frozenset
        have f10 : (Value.type "list" == Value.type "dict") = false := by decide
        have hl1 : (s.heap.push (set0 led)).IsList l its := ⟨_, ol1, rfl, nl, rfl⟩
        unfold Builtin.«set.__init__» noKeywords Builtin.Frozenset.updateFrom
        generalize hPI : pyIter = PI
        wp_walk
        subst hPI
        refine wpAny_pyIter_list hl1 (wpAny_bind (wpAny_runValue ?_))
        have below : l < s.heap.objs.size := Heap.lt_size ol
        have sz1 : (s.heap.push (set0 led)).objs.size = s.heap.objs.size + 1 := Heap.size_push _ _
        have n1 : l ≠ (s.heap.push (set0 led)).objs.size := by
          rw [sz1]
          exact Nat.ne_of_lt (Nat.lt_succ_of_lt below)
        have out : s.heap.objs.size ∉ [(s.heap.push (set0 led)).objs.size, l] := by
          rw [sz1]
          simp only [List.mem_cons, List.not_mem_nil, or_false, not_or]
          exact ⟨Nat.ne_of_lt (Nat.lt_succ_self _), Nat.ne_of_gt below⟩
        have size : xs.length = its.size := by rw [← StrsAre.len_eq hi, Array.length_toList]
        have vals : ∀ (i : Nat) (v : Value), its[i]? = some v → ∃ t, v = .str (xs.getD i Str.empty) t := fun i v z => SS.strs_at hi i v (by rw [Array.getElem?_toList]; exact z)
        refine set_loop ((Walks.list (show A.in1.in1.in1.handled = none by simp [calm]) _ l n1 its).toS) s.heap.objs.size out xs size (by rw [← size]; exact room) vals its.size 0 _ (by omega) ⟨⟨_, Heap.get?_push_size _ rfl, rfl, rfl⟩, (hl1.push _)⟩ ?start ?stop
        case start =>
          have g1 : ((s.heap.push (set0 led)).push { cls := .type "list_iterator", data := .fields #[.ref l, .int 0 0] }).get? s.heap.objs.size = some (set0 led) := Heap.get?_push_of_some _ g0
          exact setW_fresh (g1.trans (by rw [eled]))
        case stop =>
          rintro ⟨h2, g2, d2, tk2, os2⟩ mv hS
          obtain rfl : g2 = s.gens := mv.gens
          obtain rfl : d2 = s.drawn := mv.drawn
          obtain rfl : os2 = s.os := mv.os
          refine wpAny_pure (?_ : wpAny _ _ (ret Value.none) _ _ _)
          refine wpAny_pure ⟨rfl, h2, tk2, rfl, hS, fun b o hb z => mv.heap b o ?_ (Heap.get?_push_of_some _ (Heap.get?_push_of_some _ z))⟩
          simp only [List.mem_cons, List.not_mem_nil, or_false, not_or]
          exact ⟨Nat.ne_of_lt hb, by rw [sz1]; exact Nat.ne_of_lt (Nat.lt_succ_of_lt hb)⟩
      · cases r2 with
        | error e => exact hr2
        | ok fl2 =>
          cases fl2 with
          | next => exact hr2.elim
          | brk => exact hr2.elim
          | cont => exact hr2.elim
          | ret r =>
            obtain ⟨rfl, h2, tk, rfl, hS, keep⟩ := hr2
            repeat (any_goals (first | assumption | wp_step))
            exact q _ _ hS keep
end
/-- len(set(xs)) -/
def tLenSetS (K : PySem.W.Frag) (ta : TE) : TE := fun σ H Q => ta σ H fun x H1 => ∃ (l : Addr) (xs : List Str), x = .ref l ∧ SqL K H1 l (xs.map V.str) ∧ xs.length ≤ 1000 ∧ Q (.int ((dd xs).length : Nat)) H1
theorem pe_lenSetS {X : Cx} (K : PySem.W.Frag) {a : Expr} {ta : TE} {p p2 q pos : Pos} (hc : X.calm = true) (hm : X.mg "len" = none) (hm2 : X.mg "set" = none) (ha : PE X a ta) (hk : X.K = K := by rfl) (hg : Gl X "len" := by rfl) (hg2 : Gl X "set" := by rfl)
    (na : starEach [a] X.env = (false, eval a X.env) :: starEach [] X.env := by rfl) : PE X (.Call (.Name "len" p) [.Call (.Name "set" p2) [a] [] q] [] pos) (tLenSetS K ta) := by
  subst hk
  refine ⟨fun pins s σ H Q I h => ?_⟩
  refine Call_ (ld_blt I hg hm boot_len (PyProof.Rows.callWith_builtin1 (PyProof.Rows.args_cons ?_ rfl) rfl rfl))
  refine Call_ (ld_blt I hg2 hm2 boot_set ?_)
  refine PyProof.Rows.callWith_type1 (PyProof.Rows.args_cons (thn (ha.run pins s σ H _ I h) fun v s1 ⟨x, H1, I1, r1, q1⟩ => PyProof.Rows.args_nil ?_) na) na rfl
  obtain ⟨l, xs, rfl, hq, small, q1⟩ := q1
  cases r1
  obtain ⟨its, r, pl, hz⟩ := I1.list hq
  refine set_of_list (I1.ok.hd hc) pl.isList (by simpa using strsAre_of r) (by unfold scanBound; omega) fun h2 tk hS keep => PyProof.Rows.args_nil ?_
  obtain ⟨o, es, ep, t, ho, hex, hd, _, pm, _, hf, _⟩ := hS
  have hn : es.size = (dd xs).length := by rw [← pm.length_eq, List.length_map, Array.length_toList]
  have I2 : Inv X pins σ H1 { s1 with heap := h2, toks := tk } := I1.kept fun b o e => keep b o (Heap.lt_size e) e
  have few := dd_le xs []
  have few2 : (dd xs).length ≤ xs.length := by simpa [dd] using few
  exact call_len_set ho hex hd hf (by rw [hn]; omega) ⟨.int ((dd xs).length : Nat), H1, I2.tok _, ⟨_, by rw [hn]⟩, q1⟩
/-- sorted(set(xs)) -/
def tSortSetS (K : PySem.W.Frag) (ta : TE) : TE := fun σ H Q => ta σ H fun x H1 => ∃ (l : Addr) (xs : List Str), x = .ref l ∧ SqL K H1 l (xs.map V.str) ∧ xs.length < 64 ∧
  ∀ (ys : List Str) (p : Addr), ys.Perm (dd xs) → sortedS ys = true → H1 p = none → Q (.ref p) (upd H1 p (.lst (ys.map V.str)))
end Dear

namespace Dear
open PySem PySem.Spec PyProof.Rows L2
theorem sz_lit {n : Nat} (h : n ≤ 1000) : n ≤ sizeLine := Nat.le_of_lt (small1000 h)
theorem strOk_asc {z : Str} (h : ∀ c ∈ z.cps.toList, c < 128) : PyData.strOk z = true := by
  unfold PyData.strOk
  rw [Array.all_eq_true']
  intro c hc
  have := h c (by simpa using hc)
  simp
  omega
end Dear

namespace Dear
open PySem PySem.Spec PyProof.Rows L2
/-! ### slices of texts -/
def sgn (c : Nat) : Str := ⟨#[c]⟩
/-- the text of these code points -/
def txt (l : List Nat) : Str := ⟨l.toArray⟩
theorem txt_list (l : List Nat) : (txt l).cps.toList = l := List.toList_toArray ..
theorem txt_length (l : List Nat) : (txt l).length = l.length := List.size_toArray ..
theorem txt_of (z : Str) : z = txt z.cps.toList := by
  cases z
  rfl
theorem txt_inj {a b : List Nat} (h : txt a = txt b) : a = b := by
  have := congrArg (fun z : Str => z.cps.toList) h
  simpa [txt_list] using this
theorem txt_app (a b : List Nat) : txt a ++ txt b = txt (a ++ b) := by
  show (⟨a.toArray ++ b.toArray⟩ : Str) = ⟨(a ++ b).toArray⟩
  simp
theorem cut_txt (l : List Nat) (lo hi : Option Int) : cutS (txt l) lo hi = txt ((l.drop (HT.sIx l.length 0 lo)).take (HT.sIx l.length l.length hi - HT.sIx l.length 0 lo)) := by
  unfold cutS
  rw [txt_list, txt_length]
  rfl
theorem cut_pre (l : List Nat) (j : Nat) : cutS (txt l) none (some (j : Int)) = txt (l.take j) := by
  rw [cut_txt, HT.sIx_none, HT.sIx_nat, List.drop_zero, Nat.sub_zero]
  congr 1
  by_cases h : j ≤ l.length
  · rw [Nat.min_eq_left h]
  · rw [Nat.min_eq_right (by omega), List.take_length, List.take_of_length_le (by omega)]
theorem cut_last0 : cutS (txt []) (some (-1)) none = "" := by decide +kernel
theorem cut_last (l : List Nat) (c : Nat) : cutS (txt (l ++ [c])) (some (-1)) none = txt [c] := by
  rw [cut_txt, HT.sIx_none]
  have e1 : HT.sIx (l ++ [c]).length 0 (some (-1)) = l.length := by
    show (if (-1 : Int) < 0 then (-1 + ((l ++ [c]).length : Int)).toNat else min (-1 : Int).toNat (l ++ [c]).length) = l.length
    rw [if_pos (by decide), List.length_append]
    show (-1 + ((l.length + 1 : Nat) : Int)).toNat = _
    omega
  rw [e1, List.drop_left, List.take_of_length_le]
  rw [List.length_append]
  show 1 ≤ l.length + 1 - l.length
  omega
/-- the sign ahead of the j-th one -/
def aheadOf (l : List Nat) (j : Nat) : Str := cutS (cutS (txt l) none (some (j : Int))) (some (-1)) none
end Dear

namespace Dear
open PySem PySem.Spec PyProof.Rows L2
/-! ### text * number -/
theorem fold_rep (a : Array Nat) : ∀ (k : Nat) (acc : Array Nat), ((List.replicate k a).foldl (· ++ ·) acc).toList = acc.toList ++ (List.replicate k a.toList).flatten
  | 0, acc => by simp
  | k + 1, acc => by
    rw [List.replicate_succ, List.replicate_succ, List.foldl_cons, fold_rep a k, List.flatten_cons, Array.toList_append, List.append_assoc]
def repT (l : List Nat) (k : Nat) : List Nat := (List.replicate k l).flatten
theorem repT_len (l : List Nat) (k : Nat) : (repT l k).length = k * l.length := by
  unfold repT
  simp
def rRepS : R2 := fun x y H Q => ∃ (l : List Nat) (n : Int), x = .str (txt l) ∧ y = .int n ∧ 0 ≤ n ∧ n ≤ 1000 ∧ l.length ≤ 1000 ∧ Q (.str (txt (repT l n.toNat))) H
theorem op_repS {X : Cx} : OpR X (binaryOp .Mult) rRepS := by
  intro pins s σ H x y v u Q I rx ry h
  obtain ⟨l, n, rfl, rfl, h0, h1, hl, q⟩ := h
  obtain ⟨t, rfl⟩ := rx
  obtain ⟨t', rfl⟩ := ry
  have ln := txt_length l
  have big : l.length * n.toNat ≤ 1000 * 1000 := Nat.mul_le_mul hl (by omega)
  refine PySem.P.mul_str (x := txt l) (by rw [decide_eq_false (by omega), decide_eq_false (by omega)]; rfl) (fun h2 _ => ?_) (fun _ _ => ?_) ?_
  · have h3 : 0 < n := by omega
    have h4 : ((txt l).length : Int) ≤ (2 ^ 63 - 1) / n := by
      rw [Int.le_ediv_iff_mul_le h3, ln]
      have e : ((l.length * n.toNat : Nat) : Int) = (l.length : Int) * n := by
        rw [Int.natCast_mul, Int.toNat_of_nonneg h0]
      rw [← e]
      omega
    omega
  · unfold Builtin.Str.tooLong
    rw [ln]
    refine decide_eq_false ?_
    have := sz_lit (n := 0) (by decide)
    rw [sizeLine_eq]
    omega
  · by_cases e1 : n < 1
    · rw [if_pos e1]
      have e2 : n = 0 := by omega
      subst e2
      exact ⟨by decide, .str (txt (repT l 0)), H, I.tok _, ⟨_, rfl⟩, q⟩
    · rw [if_neg e1]
      by_cases e2 : (n == 1 || (txt l).length == 0) = true
      · rw [if_pos e2]
        have e3 : repT l n.toNat = l := by
          rw [ln] at e2
          simp only [Bool.or_eq_true, beq_iff_eq] at e2
          rcases e2 with e2 | e2
          · subst e2
            simp [repT]
          · have e3 : l = [] := List.length_eq_zero_iff.mp e2
            subst e3
            simp [repT]
        rw [e3] at q
        exact ⟨.str (txt l), H, I, ⟨_, rfl⟩, q⟩
      · rw [if_neg e2]
        have e3 : (⟨(List.replicate n.toNat (txt l).cps).foldl (· ++ ·) #[]⟩ : Str) = txt (repT l n.toNat) := by
          rw [txt_of ⟨(List.replicate n.toNat (txt l).cps).foldl (· ++ ·) #[]⟩]
          congr 1
          show ((List.replicate n.toNat (txt l).cps).foldl (· ++ ·) #[]).toList = _
          rw [fold_rep, txt_list]
          rfl
        rw [e3]
        refine ⟨?_, .str (txt (repT l n.toNat)), H, I.tok _, ⟨_, rfl⟩, q⟩
        rw [txt_length, repT_len, Nat.mul_comm, sizeLine_eq]
        omega
end Dear

namespace Dear
open PySem PySem.Spec PyProof.Rows L2
/-! ### the set of a list of tuples of texts and whole numbers (fewer than 64), and how many it has -/
section
variable {P : Program} {w : World} {A : Around} {E : Value → Shared → Prop} {s : Shared}
abbrev KyT (P : Program) (w : World) (h : Heap) (k : List Key) (a : Addr) : Prop := IsTupleKey (mixKind P w) h k a
abbrev kyH (P : Program) (w : World) (k : List Key) : Int := tupleKeyHash (mixKind P w) k
abbrev prb (m : Nat) (h : Int) (c : Nat) : SetTable.Probe := nth m (runAt m (SetTable.bits h % (m + 1)) (SetTable.bits h)) c
def entK (P : Program) (w : World) (p : Addr × List Key) : Int × Value := (kyH P w p.2, Value.ref p.1)
theorem parts_plain {k : List Key} {vs : List Value} (h : ItemsAre (mixKind P w) k vs) : ∀ v ∈ vs, (∀ n, ofAClassStatement n v = pure false) ∧ ∃ b, ∀ n, hashByValue n v = pure b := by
  induction h with
  | nil => exact fun v hv => nomatch hv
  | @cons k0 v0 ks us h1 _ ih =>
    intro v hv
    rcases List.mem_cons.mp hv with rfl | hv
    · rcases keyIs_shape h1 with ⟨i, t, rfl, rfl⟩ | ⟨x, t, rfl, rfl⟩
      · exact ⟨fun n => by cases n <;> rfl, true, fun n => by cases n <;> rfl⟩
      · exact ⟨fun n => by cases n <;> rfl, false, fun n => by cases n <;> rfl⟩
    · exact ih v hv
theorem class_no {k : List Key} {b : Addr} {Q : Bool → Shared → Prop} (hk : KyT P w s.heap k b) (q : Q false s) : wpAny (model P w) A (ofAClassStatement 8 (.ref b)) Q E s := by
  have ty := hk.typeIs
  obtain ⟨ob, its, n, at0, _, da, ar⟩ := hk
  unfold ofAClassStatement
  refine wpAny_bind (wpAny_typeOf ty ?_)
  dsimp only
  simp only [show (("tuple" : String) == "tuple") = true from by decide, if_true, Bool.not_true, Bool.false_eq_true, if_false]
  first
    | refine wpAny_bind (wpAny_pure ?_)
    | skip
  try simp only [Bool.not_true, if_false, Bool.false_eq_true]
  show wpAny _ _ (seqItems? (.ref b) >>= _) _ _ s
  refine wpAny_bind (wpAny_seqItems at0 da ?_)
  dsimp only
  refine wpAny_bind ?_
  show wpAny _ _ (forIn its _ _) _ _ s
  rw [← Array.forIn_toList]
  refine wpAny_forIn_list _ (fun l r s1 => r.1 = none ∧ s1 = s ∧ ∀ v ∈ l, ∀ n, ofAClassStatement n v = pure false) _ ?_ ?_ _ _ ⟨rfl, rfl, fun v hv => (parts_plain ar v hv).1⟩
  · rintro v l r s1 ⟨hr, rfl, all⟩
    rw [all v List.mem_cons_self]
    refine wpAny_bind (wpAny_pure ?_)
    simp only [if_false, Bool.false_eq_true]
    exact wpAny_pure ⟨rfl, rfl, fun u hu => all u (List.mem_cons_of_mem _ hu)⟩
  · rintro ⟨r1, r2⟩ s1 ⟨hr, rfl, _⟩
    dsimp only at hr
    subst hr
    exact wpAny_pure q
theorem byval_any {k : List Key} {b : Addr} {Q : Bool → Shared → Prop} (hk : KyT P w s.heap k b) (q : ∀ z, Q z s) : wpAny (model P w) A (hashByValue 8 (.ref b)) Q E s := by
  have ty := hk.typeIs
  obtain ⟨ob, its, n, at0, _, da, ar⟩ := hk
  unfold hashByValue
  refine wpAny_bind (wpAny_specialOf ty PySem.F.slot_tuple_hash.lookup ?_)
  show wpAny _ _ (seqItems? (.ref b) >>= _) _ _ s
  refine wpAny_bind (wpAny_seqItems at0 da ?_)
  refine wpAny_bind ?_
  show wpAny _ _ (forIn its _ _) _ _ s
  rw [← Array.forIn_toList]
  refine wpAny_forIn_list _ (fun l r s1 => r.1 = none ∧ s1 = s ∧ ∀ v ∈ l, ∃ z, ∀ n, hashByValue n v = pure z) _ ?_ ?_ _ _ ⟨rfl, rfl, fun v hv => (parts_plain ar v hv).2⟩
  · rintro v l r s1 ⟨hr, rfl, all⟩
    obtain ⟨z, hz⟩ := all v List.mem_cons_self
    rw [hz]
    refine wpAny_bind (wpAny_pure ?_)
    cases z with
    | true =>
      simp only [if_false, Bool.false_eq_true, Bool.not_true]
      exact wpAny_pure ⟨rfl, rfl, fun u hu => all u (List.mem_cons_of_mem _ hu)⟩
    | false =>
      simp only [Bool.not_false, if_true]
      exact wpAny_pure (wpAny_pure (q false))
  · rintro ⟨r1, r2⟩ s1 ⟨hr, rfl, _⟩
    dsimp only at hr
    subst hr
    exact wpAny_pure (q true)
theorem seen_no {k : List Key} {b : Addr} {Q : Bool → Shared → Prop} (hk : KyT P w s.heap k b) {ys : List Value} (hy : ∀ y ∈ ys, ∃ k' c, y = Value.ref c ∧ KyT P w s.heap k' c) (q : Q false s) :
    wpAny (model P w) A (searchCouldBeSeen (.ref b) ys) Q E s := by
  unfold searchCouldBeSeen
  refine wpAny_bind ?_
  refine wpAny_forIn_list _ (fun l r s1 => r.1 = none ∧ s1 = s ∧ ∀ y ∈ l, ∃ k' c, y = Value.ref c ∧ KyT P w s.heap k' c) _ ?_ ?_ _ _ ⟨rfl, rfl, hy⟩
  · rintro v l r s1 ⟨hr, rfl, all⟩
    obtain ⟨k', c, rfl, hc⟩ := all v List.mem_cons_self
    have later : ∀ y ∈ l, ∃ k' c, y = Value.ref c ∧ KyT P w s1.heap k' c := fun u hu => all u (List.mem_cons_of_mem _ hu)
    dsimp only
    by_cases same : (b == c || (carriedByValue (.ref b) && carriedByValue (.ref c))) = true
    · exact wp_if_pos same (wpAny_pure ⟨rfl, rfl, later⟩)
    · refine wp_if_neg same (wpAny_bind (wpAny_eqIsQuiet_tuple hk ?_))
      simp only [if_false, Bool.false_eq_true, Bool.not_true]
      refine wpAny_bind (wpAny_eqIsQuiet_tuple hc ?_)
      simp only [if_false, Bool.false_eq_true, Bool.not_true]
      refine wpAny_bind (class_no hk ?_)
      simp only [if_false, Bool.false_eq_true]
      refine wpAny_bind (class_no hc ?_)
      simp only [if_false, Bool.false_eq_true]
      exact wpAny_pure ⟨rfl, rfl, later⟩
  · rintro ⟨r1, r2⟩ s1 ⟨hr, rfl, _⟩
    dsimp only at hr
    subst hr
    exact wpAny_pure q
/-- at a lies a set whose tuples are L's, in the order of its table t -/
structure TSet (P : Program) (w : World) (h : Heap) (a : Addr) (L : List (Addr × List Key)) (t : SetTable) : Prop where
  ob : ∃ o es ep, h.get? a = some o ∧ o.ExactSet ∧ o.data = .set es ep t ∧ es.toList = L.map (entK P w)
  tab : TabOk t (L.map fun p => kyH P w p.2)
  un : (L.map (·.2)).Nodup
  ky : ∀ p ∈ L, KyT P w h p.2 p.1
  led : w.params.followText "set-order" = true ∨ t.led = true
  room : L.length * 5 < t.mask * 3
  few : L.length < 64
variable {a : Addr} {L : List (Addr × List Key)} {t : SetTable}
theorem ents_size {es : Array (Int × Value)} (r : es.toList = L.map (entK P w)) : es.size = L.length := by
  rw [← Array.length_toList, r, List.length_map]
theorem ents_at {es : Array (Int × Value)} (r : es.toList = L.map (entK P w)) {i : Nat} {p : Addr × List Key} (h : L[i]? = some p) : es[i]? = some (kyH P w p.2, Value.ref p.1) := by
  rw [← Array.getElem?_toList, r, List.getElem?_map, h]
  rfl
theorem TSet.fits {h : Heap} (T : TSet P w h a L t) {es : Array (Int × Value)} (r : es.toList = L.map (entK P w)) : t.fits es.size = true := by
  have n1 := T.tab.sz
  have n2 := ents_size r
  have n3 := T.room
  rw [List.length_map] at n1
  unfold SetTable.fits SetTable.fill
  rw [T.tab.dm]
  refine Bool.and_eq_true_iff.mpr ⟨beq_iff_eq.mpr (by omega), decide_eq_true ?_⟩
  show t.place.size + 0 ≤ t.mask
  omega
theorem TSet.whole {h : Heap} (T : TSet P w h a L t) : ¬ t.gaveWay = true := by
  unfold SetTable.gaveWay
  rw [mask_odd T.tab.mok]
  exact by decide
theorem prb_dummy (m : Nat) (h : Int) (c : Nat) : (prb m h c).dummy = none := by
  have on : ∀ (n : Nat) (p : SetTable.Probe), p.dummy = none → (nth m p n).dummy = none := by
    intro n
    induction n with
    | zero => exact fun p e => e
    | succ n ih =>
      intro p e
      refine ih (adv m p) ?_
      unfold adv
      split <;> exact e
  exact on c _ rfl
theorem prb_add (m : Nat) (h : Int) (c q : Nat) : nth m (prb m h c) q = prb m h (c + q) := (nth_add m c _ q).symm
/-- the search, from its c-th look on -/
theorem look_on (T : TSet P w s.heap a L t) {x : Addr} {k : List Key} (hx : KyT P w s.heap k x) (hu : A.units < cLine) {K : Nat} (k1 : way t.mask (kyH P w k) K ∉ t.place.toList)
    (k2 : ∀ c, c < K → way t.mask (kyH P w k) c ∈ t.place.toList) (k3 : K < 10 * SetTable.turns t.mask) {Q : SetFound → Shared → Prop} (yes : k ∈ L.map (·.2) → Q (.there none) s)
    (no : k ∉ L.map (·.2) → Q (.free (way t.mask (kyH P w k) K) false) s) : ∀ (f c : Nat) (st : Option SetTable.Probe), st.getD (t.probeStart (kyH P w k)) = prb t.mask (kyH P w k) c → c ≤ K → K - c < f →
      (∀ (i : Nat) p, L[i]? = some p → p.2 = k → ∃ d, c ≤ d ∧ d < K ∧ t.place.toList[i]? = some (way t.mask (kyH P w k) d)) → wpAny (model P w) A (setSearchFrom a (.ref x) (kyH P w k) true f st) Q E s := by
  intro f
  induction f with
  | zero => exact fun c st _ _ z => absurd z (Nat.not_lt_zero _)
  | succ f ih =>
    intro c st hst hc hf left
    obtain ⟨o, es, ep, at0, ex, da, rows⟩ := T.ob
    have fit := T.fits rows
    have pj : ∀ q, (nth t.mask (prb t.mask (kyH P w k) c) q).j = way t.mask (kyH P w k) (c + q) := fun q => congrArg SetTable.Probe.j (prb_add _ _ c q)
    have hh : ∀ (i : Nat) p, L[i]? = some p → (es[i]?.map (·.1)).getD 0 = kyH P w p.2 := fun i p e => by
      rw [ents_at rows e]
      rfl
    have sp := go_spec t T.tab.ris T.tab.dm (fun i => (es[i]?.map (·.1)).getD 0) (kyH P w k) (10 * SetTable.turns t.mask) (K - c) (prb t.mask (kyH P w k) c) (prb_dummy _ _ c) (by omega)
      (fun q hq => by rw [pj]; exact k2 _ (by omega)) (by rw [pj, Nat.add_sub_cancel' hc]; exact k1)
    rw [setSearchFrom_succ]
    refine wpAny_bind (wpAny_setState_of at0 da fit ?_)
    dsimp only
    refine wp_if_neg T.whole ?_
    first
      | refine wpAny_bind (wpAny_pure ?_)
      | skip
    rcases sp with ⟨q, i, hq, hi, eh, ahead, go⟩ | ⟨ahead, go⟩
    · rw [prb_add, prb_add] at go
      rw [pj] at hi
      have go' : t.probe (fun i => (es[i]?.map (·.1)).getD 0) (kyH P w k) (st.getD (t.probeStart (kyH P w k))) = some (.candidate (way t.mask (kyH P w k) (c + q)) i (prb t.mask (kyH P w k) (c + (q + 1)))) := by
        rw [hst]
        exact go
      rw [go']
      dsimp only
      have il : i < L.length := by
        have b1 := (List.getElem?_eq_some_iff.mp hi).1
        have b2 := T.tab.sz
        rw [List.length_map] at b2
        rw [Array.length_toList] at b1
        omega
      obtain ⟨p, hp⟩ : ∃ p, L[i]? = some p := ⟨_, List.getElem?_eq_getElem il⟩
      have pm := List.mem_of_getElem? hp
      have slot := slot_live T.tab.ris hi
      have go2 : wpAny (model P w) A (searchRest a (.ref x) (kyH P w k) true f es t (way t.mask (kyH P w k) (c + q)) i (prb t.mask (kyH P w k) (c + (q + 1)))) Q E s := by
        unfold searchRest
        rw [ents_at rows hp]
        dsimp only
        refine wpAny_bind (wpAny_holding (wpAny_eqBool_tuple hu (T.ky p pm) hx ?_))
        refine wpAny_bind (wpAny_setState_of at0 da fit ?_)
        dsimp only
        by_cases same : p.2 = k
        · exact wp_if_pos (by simp [same]) (wpAny_pure (yes (List.mem_map.mpr ⟨p, pm, same⟩)))
        · refine wp_if_neg (by simp [same]) ?_
          first
            | refine wpAny_bind (wpAny_pure ?_)
            | skip
          rw [sameMem]
          dsimp only
          simp only [if_true, slot, ents_at rows hp]
          refine wpAny_bind (wpAny_isSame_ref_self (wpAny_bind (wpAny_pure ?_)))
          simp only [if_true]
          refine wp_if_neg (by simp [same]) (ih (c + (q + 1)) _ rfl (by omega) (by omega) fun j r hj er => ?_)
          obtain ⟨d, d1, d2, d3⟩ := left j r hj er
          have ne1 : ¬ d < c + q := fun z => by
            refine ahead (d - c) j (by omega) (by rw [pj, Nat.add_sub_cancel' d1]; exact d3) ?_
            show (es[j]?.map (·.1)).getD 0 = _
            rw [hh j r hj, er]
          have ne2 : d ≠ c + q := fun z => by
            rw [z] at d3
            have := slot_live T.tab.ris d3
            rw [slot] at this
            injection this with this
            rw [← this, hp] at hj
            cases hj
            exact same er
          exact ⟨d, by omega, d2, d3⟩
      by_cases ld : t.led = true
      · refine wp_if_neg (by simp [ld]) ?_
        first
          | exact wpAny_bind (wpAny_pure go2)
          | exact go2
      · refine wp_if_pos (by simp [ld]) (wpAny_bind (seen_no hx (fun y hy => ?_) ?_))
        · obtain ⟨e, he, rfl⟩ := List.mem_map.mp hy
          have he2 : e ∈ es.toList := by
            have : e ∈ es ∧ e.1 = kyH P w k := by simpa using he
            simpa using this.1
          rw [rows] at he2
          obtain ⟨r, hr, rfl⟩ := List.mem_map.mp he2
          exact ⟨r.2, r.1, rfl, T.ky r hr⟩
        · refine wp_if_neg (by decide) ?_
          first
            | exact wpAny_bind (wpAny_pure go2)
            | exact go2
    · have go' : t.probe (fun i => (es[i]?.map (·.1)).getD 0) (kyH P w k) (st.getD (t.probeStart (kyH P w k))) = some (.empty (way t.mask (kyH P w k) K) none) := by
        rw [prb_add, Nat.add_sub_cancel' hc] at go
        rw [hst]
        exact go
      rw [go']
      dsimp only
      refine wpAny_pure (no fun m => ?_)
      obtain ⟨p, pm, ep'⟩ := List.mem_map.mp m
      obtain ⟨i, hi, ei⟩ := List.getElem_of_mem pm
      have hp : L[i]? = some p := by rw [List.getElem?_eq_getElem hi, ei]
      obtain ⟨d, d1, d2, d3⟩ := left i p hp ep'
      refine ahead (d - c) i (by omega) (by rw [pj, Nat.add_sub_cancel' d1]; exact d3) ?_
      show (es[i]?.map (·.1)).getD 0 = _
      rw [hh i p hp, ep']
theorem look_for (T : TSet P w s.heap a L t) {x : Addr} {k : List Key} (hx : KyT P w s.heap k x) (hu : A.units < cLine) {Q : SetFound → Shared → Prop} (yes : k ∈ L.map (·.2) → Q (.there none) s)
    (no : ∀ K, k ∉ L.map (·.2) → way t.mask (kyH P w k) K ∉ t.place.toList → (∀ c, c < K → way t.mask (kyH P w k) c ∈ t.place.toList) → Q (.free (way t.mask (kyH P w k) K) false) s) :
    wpAny (model P w) A (setSearch a (.ref x) (kyH P w k) true) Q E s := by
  have n1 := T.tab.sz
  have n2 := T.room
  rw [List.length_map] at n1
  obtain ⟨K, k3, k1, k2⟩ := T.tab.first (by rw [List.length_map]; omega) (kyH P w k)
  have lim : 10 * SetTable.turns t.mask ≤ 1420 := by
    unfold SetTable.turns
    rcases T.tab.mok with e | e | e <;> omega
  unfold setSearch
  refine look_on T hx hu k1 k2 k3 yes (fun n => no K n k1 k2) 100000 0 none rfl (Nat.zero_le _) (by omega) fun i p hp e => ?_
  have hl : i < t.place.toList.length := by
    have := (List.getElem?_eq_some_iff.mp hp).1
    rw [Array.length_toList]
    omega
  have hj := List.getElem?_eq_getElem hl
  obtain ⟨c, c1, c2⟩ := T.tab.before k1 (by rw [List.getElem?_map, hp, Option.map_some, e]) hj
  exact ⟨c, Nat.zero_le _, c1, by rw [hj, c2]⟩
theorem range_own {α : Type} (L : List α) : (List.range L.length).filterMap (fun i => L[i]?) = L := by
  have e : (List.range L.length).map (fun i => L[i]?) = L.map some := by
    refine List.ext_getElem? fun i => ?_
    rw [List.getElem?_map, List.getElem?_map]
    by_cases h : i < L.length
    · rw [List.getElem?_range h, List.getElem?_eq_getElem h]
      show some L[i]? = _
      rw [List.getElem?_eq_getElem h]
      rfl
    · rw [List.getElem?_eq_none (by rw [List.length_range]; omega), List.getElem?_eq_none (by omega)]
      rfl
  have e2 : (List.range L.length).filterMap (fun i => L[i]?) = ((List.range L.length).map (fun i => L[i]?)).filterMap id := by rw [List.filterMap_map]; rfl
  rw [e2, e, List.filterMap_map]
  exact List.filterMap_some
theorem ents_order {es : Array (Int × Value)} {order : Array Nat} (r : es.toList = L.map (entK P w)) (pm : order.toList.Perm (List.range L.length)) :
    ∃ M : List (Addr × List Key), (order.filterMap (es[·]?)).toList = M.map (entK P w) ∧ M.Perm L ∧ (M.map fun p => kyH P w p.2) = order.toList.map fun i => (es.map (·.1)).getD i 0 := by
  have at1 : ∀ i : Nat, es[i]? = (L[i]?).map (entK P w) := fun i => by rw [← Array.getElem?_toList, r, List.getElem?_map]
  refine ⟨order.toList.filterMap fun i => L[i]?, ?_, (pm.filterMap _).trans (by rw [range_own]), ?_⟩
  · rw [Array.toList_filterMap, List.map_filterMap]
    congr 1
    exact funext at1
  · have on : ∀ l : List Nat, (∀ i ∈ l, i < L.length) → ((l.filterMap fun i => L[i]?).map fun p => kyH P w p.2) = l.map fun i => (es.map (·.1)).getD i 0 := by
      intro l
      induction l with
      | nil => exact fun _ => rfl
      | cons i l ih =>
        intro hl
        have hi := List.getElem?_eq_getElem (hl i List.mem_cons_self)
        rw [List.filterMap_cons_some hi, List.map_cons, List.map_cons, ih fun j hj => hl j (List.mem_cons_of_mem _ hj)]
        congr 1
        rw [Array.getD_eq_getD_getElem?, Array.getElem?_map, at1, hi]
        rfl
    exact on _ fun i hi => List.mem_range.mp (pm.mem_iff.mp hi)
theorem key_same {h h' : Heap} {k : List Key} {b : Addr} {o : Obj} {es : Array (Int × Value)} {ep : Nat} (hk : KyT P w h k b) (at0 : h.get? a = some o) (da : o.data = .set es ep t) (sb : Heap.SameBut a h h') : KyT P w h' k b := by
  obtain ⟨u, its, n, e1, e2, e3, e4⟩ := hk
  refine ⟨u, its, n, (sb.2 b fun z => ?_).trans e1, e2, e3, e4⟩
  rw [z, at0] at e1
  cases e1
  rw [da] at e3
  cases e3
theorem relay_on {o : Obj} {es : Array (Int × Value)} {ep : Nat} (at0 : s.heap.get? a = some o) (ex : o.ExactSet) (da : o.data = .set es ep t) (rows : es.toList = L.map (entK P w)) (n0 : t.place.size = es.size) (dm : t.dummies = #[])
    (fl : es.size ≤ t.mask) (un : (L.map (·.2)).Nodup) (ky : ∀ p ∈ L, KyT P w s.heap p.2 p.1) (led : w.params.followText "set-order" = true ∨ t.led = true) (few : L.length < 64) {wanted M : Nat} (hw : SetTable.sizeAbove wanted - 1 = M)
    (hM : MaskOk M) (small : SetTable.sizeAbove wanted ≤ 128) (room : L.length * 5 < M * 3) {Q : Unit → Shared → Prop}
    (q : ∀ h' L' t', Heap.SameBut a s.heap h' → TSet P w h' a L' t' → L'.Perm L → Q () { s with heap := h' }) : wpAny (model P w) A (setRelay a wanted) Q E s := by
  have sz := ents_size rows
  have fit : t.fits es.size = true := by
    unfold SetTable.fits SetTable.fill
    rw [dm]
    refine Bool.and_eq_true_iff.mpr ⟨beq_iff_eq.mpr n0, decide_eq_true ?_⟩
    show t.place.size + 0 ≤ t.mask
    omega
  obtain ⟨t2, order, e, pm, T, em, el, _, ed⟩ := relaid_ok t (hs := es.map (·.1)) (wanted := wanted) hw hM (by rw [Array.size_map]; omega)
  rw [Array.size_map, sz] at pm
  obtain ⟨L2, r1, r2, r3⟩ := ents_order rows pm
  rw [← r3] at T
  have sz2 : (order.filterMap (es[·]?)).size = es.size := by rw [ents_size r1, r2.length_eq, sz]
  rw [setRelay_eq]
  refine wpAny_bind (wpAny_setState_of at0 da fit ?_)
  dsimp only
  refine wp_if_neg (by rw [sizeLine_eq]; omega) ?_
  first
    | refine wpAny_bind (wpAny_pure ?_)
    | skip
  rw [e]
  dsimp only
  refine wpAny_bind (wp_if_neg (by simp [sz2]) ?_)
  first
    | refine wpAny_bind (wpAny_pure (wpAny_pure ?_))
    | refine wpAny_pure ?_
  dsimp only
  refine wpAny_storeSet_of at0 da ?_ (by rw [sz2, sizeLine_eq]; omega)
  have sb : Heap.SameBut a s.heap (s.heap.update a (Obj.putSet (order.filterMap (es[·]?)) t2)) := Heap.SameBut.update ..
  refine q _ L2 t2 sb ⟨⟨_, _, ep + 1, store_at at0 da, ⟨ex.1, ex.2.1, ex.2.2⟩, rfl, r1⟩, T, (r2.map (·.2)).nodup_iff.mpr un, fun p hp => key_same (ky p (r2.mem_iff.mp hp)) at0 da sb, by rw [el]; exact led, ?_, by rw [r2.length_eq]; exact few⟩ r2
  rw [r2.length_eq, em]
  exact room
theorem tab_dull {hs : List Int} (T : TabOk t hs) : TabOk { t with plain := false } hs := ⟨T.ris, T.dm, T.sz, T.mok, T.bd, T.reach⟩
theorem grow_5 : SetTable.sizeAbove (SetTable.grown (4 + 1)) = 32 := size_20
theorem grow_19 : SetTable.sizeAbove (SetTable.grown (18 + 1)) = 128 := size_76
theorem add_on (T : TSet P w s.heap a L t) {x : Addr} {k : List Key} (hx : KyT P w s.heap k x) (hu : A.units < cLine) (few : L.length + 1 < 64) {Q : Bool → Shared → Prop}
    (q : ∀ b h' L' t', Heap.SameBut a s.heap h' → TSet P w h' a L' t' → (k ∈ L.map (·.2) → L' = L) → (k ∉ L.map (·.2) → L'.Perm ((x, k) :: L)) → Q b { s with heap := h' }) :
    wpAny (model P w) A (setAddHashed a (.ref x) (kyH P w k)) Q E s := by
  obtain ⟨o, es, ep, at0, ex, da, rows⟩ := T.ob
  have fit := T.fits rows
  have sz := ents_size rows
  have room := T.room
  unfold setAddHashed
  refine wpAny_holding ?_
  rw [show (100000 : Nat) = 99999 + 1 from rfl, setAddHashedIn_succ]
  refine wpAny_bind (wpAny_setState_of at0 da fit ?_)
  dsimp only
  refine wp_if_neg (by simp [byScan, Value.scannable]) ?_
  first
    | refine wpAny_bind (wpAny_pure ?_)
    | skip
  refine wpAny_bind (look_for T hx hu (fun m => ?_) fun K m k1 k2 => ?_)
  · dsimp only
    exact wpAny_pure (q false s.heap L t (Heap.SameBut.refl a s.heap) T (fun _ => rfl) fun z => absurd m z)
  · dsimp only
    refine wpAny_bind (wpAny_setState_of at0 da fit ?_)
    dsimp only
    obtain ⟨q1, q2, q3, q4, q5, q6, q7, q8, q9⟩ := T.tab.put k1 k2
    generalize hpt : t.put (way t.mask (kyH P w k) K) = pt at q1 q3 q4 q5 q6 q7 q8 q9 ⊢
    obtain ⟨t1, p⟩ := pt
    dsimp only at q1 q3 q4 q5 q6 q7 q8 q9 ⊢
    subst q1
    have tl : (L.map fun p => kyH P w p.2).length = L.length := List.length_map ..
    rw [tl] at q2 q9
    generalize SetTable.below t.place (way t.mask (kyH P w k) K) = p at q2 q3 ⊢
    have rows1 : (SetTable.insertAt es p (kyH P w k, Value.ref x)).toList = (L.take p ++ (x, k) :: L.drop p).map (entK P w) := by
      rw [SetTable.toList_insertAt, rows, List.map_append, List.map_cons, List.map_take, List.map_drop]
      rfl
    have pm := put_perm L p (x, k)
    have hs1 : (L.take p ++ (x, k) :: L.drop p).map (fun p => kyH P w p.2) = (L.map fun p => kyH P w p.2).take p ++ kyH P w k :: (L.map fun p => kyH P w p.2).drop p := by
      rw [List.map_append, List.map_cons, List.map_take, List.map_drop]
    rw [← hs1] at q3
    generalize SetTable.insertAt es p (kyH P w k, Value.ref x) = es1 at rows1 ⊢
    generalize L.take p ++ (x, k) :: L.drop p = L1 at pm rows1 q3
    have un1 : (L1.map (·.2)).Nodup := (pm.map (·.2)).nodup_iff.mpr (List.nodup_cons.mpr ⟨m, T.un⟩)
    have n1 : L1.length = L.length + 1 := pm.length_eq
    have sz1 : es1.size = L.length + 1 := by rw [ents_size rows1, n1]
    have fin : ∀ t2 : SetTable, TabOk t2 (L1.map fun p => kyH P w p.2) → t2.mask = t.mask → t2.led = t.led → t2.fill = L.length + 1 →
        wpAny (model P w) A (storeSet a es1 t2 >>= fun _ => if (!false && t2.tooFull) = true then (setRelay a (SetTable.grown (es.size + 1)) >>= fun _ => pure true) else pure true) Q E s := by
      intro t2 T2 e1 e2 e3
      refine wpAny_bind (wpAny_storeSet_of at0 da ?_ (by rw [sz1, sizeLine_eq]; omega))
      have sb : Heap.SameBut a s.heap (s.heap.update a (Obj.putSet es1 t2)) := Heap.SameBut.update ..
      have at1 := store_at (es' := es1) (t' := t2) at0 da
      generalize s.heap.update a (Obj.putSet es1 t2) = h1 at sb at1 ⊢
      have ky1 : ∀ p ∈ L1, KyT P w h1 p.2 p.1 := fun p hp => by
        rcases List.mem_cons.mp (pm.mem_iff.mp hp) with rfl | hp
        · exact key_same hx at0 da sb
        · exact key_same (T.ky p hp) at0 da sb
      have led1 : w.params.followText "set-order" = true ∨ t2.led = true := by rw [e2]; exact T.led
      by_cases full : t2.tooFull = true
      · refine wp_if_pos (by simp [full]) (wpAny_bind ?_)
        have much : (L.length + 1) * 5 ≥ t2.mask * 3 := by
          have z := full
          unfold SetTable.tooFull at z
          rwa [decide_eq_true_eq, e3] at z
        have two : (t.mask = 7 ∧ L.length = 4) ∨ (t.mask = 31 ∧ L.length = 18) := by
          rw [e1] at much
          rcases T.tab.mok with e | e | e
          · exact .inl ⟨e, by omega⟩
          · exact .inr ⟨e, by omega⟩
          · exfalso; omega
        rw [sz]
        have go : ∀ M, SetTable.sizeAbove (SetTable.grown (L.length + 1)) - 1 = M → MaskOk M → SetTable.sizeAbove (SetTable.grown (L.length + 1)) ≤ 128 → (L.length + 1) * 5 < M * 3 →
            wpAny (model P w) A (setRelay a (SetTable.grown (L.length + 1))) (fun _ s' => wpAny (model P w) A (pure true) Q E s') E { s with heap := h1 } := fun M g1 g2 g3 g4 => by
          refine relay_on (s := { s with heap := h1 }) at1 ⟨ex.1, ex.2.1, ex.2.2⟩ rfl rows1 (by have z := T2.sz; rw [List.length_map, n1] at z; rw [z, sz1]) T2.dm (by rw [sz1, e1]; rcases two with ⟨y, y2⟩ | ⟨y, y2⟩ <;> omega) un1 ky1 led1 (by omega) g1 g2 g3 (by rw [n1]; exact g4) fun h2 L2 t3 sb2 T3 pm2 => ?_
          exact wpAny_pure (q true h2 L2 t3 (sb.trans sb2) T3 (fun z => absurd z m) fun _ => pm2.trans pm)
        rcases two with ⟨_, y⟩ | ⟨_, y⟩
        · exact go 31 (by rw [y, grow_5]) (.inr (.inl rfl)) (by rw [y, grow_5]; decide) (by omega)
        · exact go 127 (by rw [y, grow_19]) (.inr (.inr rfl)) (by rw [y, grow_19]; decide) (by omega)
      · refine wp_if_neg (by simp [full]) (wpAny_pure (q true h1 L1 t2 sb ⟨⟨_, es1, ep + 1, at1, ⟨ex.1, ex.2.1, ex.2.2⟩, rfl, rows1⟩, T2, un1, ky1, led1, ?_, by omega⟩ (fun z => absurd z m) fun _ => pm))
        have z := full
        unfold SetTable.tooFull at z
        rw [decide_eq_true_eq, e3] at z
        rw [n1]
        omega
    by_cases pl : t1.plain = true
    · refine wp_if_pos pl (wpAny_bind (byval_any hx fun z => ?_))
      cases z with
      | true => exact fin t1 q3 q4 q5 q9
      | false => exact fin { t1 with plain := false } (tab_dull q3) q4 q5 q9
    · exact wp_if_neg pl (wpAny_bind (wpAny_pure (fin t1 q3 q4 q5 q9)))
end
/-- each thing once, where it came first -/
def ddA {α : Type} [DecidableEq α] (xs : List α) : List α := xs.foldl (fun m v => if v ∈ m then m else m ++ [v]) []
theorem ddA_more {α : Type} [DecidableEq α] {xs : List α} {i : Nat} {v : α} (h : xs[i]? = some v) : ddA (xs.take (i + 1)) = if v ∈ ddA (xs.take i) then ddA (xs.take i) else ddA (xs.take i) ++ [v] := by
  unfold ddA
  rw [List.take_succ, h, List.foldl_append]
  rfl
theorem ddA_len {α : Type} [DecidableEq α] : ∀ (xs m : List α), (xs.foldl (fun m v => if v ∈ m then m else m ++ [v]) m).length ≤ m.length + xs.length
  | [], m => Nat.le_refl _
  | v :: r, m => by
    have h1 := ddA_len r (if v ∈ m then m else m ++ [v])
    have h2 : (if v ∈ m then m else m ++ [v]).length ≤ m.length + 1 := by
      split
      · omega
      · simp
    rw [List.foldl_cons, List.length_cons]
    omega
theorem ddA_nodup {α : Type} [DecidableEq α] : ∀ (xs m : List α), (m ++ xs).Nodup → xs.foldl (fun m v => if v ∈ m then m else m ++ [v]) m = m ++ xs
  | [], m, _ => (List.append_nil m).symm
  | v :: r, m, h => by
    have hv : ¬ v ∈ m := fun z => (List.nodup_append.mp h).2.2 v z v List.mem_cons_self rfl
    rw [List.foldl_cons, if_neg hv, ddA_nodup r (m ++ [v]) (by rw [List.append_assoc]; exact h), List.append_assoc]
    rfl
section
variable {prog : Program} {w : World} {A : Around} {R : Result → Shared → Prop} {I : Addr} {fp wr : List Addr} {G : Array GenState → Array GenState → Prop} {n : Nat} {Pn : Nat → Value → Prop} {St : Nat → Shared → Prop}
/-- S holds the unlike ones of the first i -/
def SetK (prog : Program) (w : World) (h : Heap) (S : Addr) (ks : List (Addr × List Key)) (i : Nat) : Prop := ∃ L t, TSet prog w h S L t ∧ (L.map (·.2)).Perm (ddA ((ks.take i).map (·.2))) ∧ ∀ p ∈ L, p ∈ ks
theorem set_loopK (W : WalksS prog w A.in1 I fp wr G n Pn St) (S : Addr) (out : S ∉ fp) (ks : List (Addr × List Key)) (size : ks.length = n) (few : ks.length < 64) (hu : A.in1.units < cLine)
    (vals : ∀ i v, Pn i v → ∃ p, ks[i]? = some p ∧ v = .ref p.1) (h0 : Heap) (ky0 : ∀ p ∈ ks, KyT prog w h0 p.2 p.1) (new0 : ∀ b ∈ S :: wr, h0.get? b = none) :
    ∀ (m i : Nat) (s : Shared), i + m = n → St i s → (∀ b o, h0.get? b = some o → s.heap.get? b = some o) → SetK prog w s.heap S ks i →
      (∀ s', Moved (S :: wr) G s s' → SetK prog w s'.heap S ks n → R (.ok (.ret .none)) s') →
      codeAny (model prog w) A (.builtin "set.update.loop" ⟨[.ref S, .ref I], []⟩) R s := by
  have outw : S ∉ wr := fun z => out (W.sub _ z)
  have more : ∀ b ∈ wr, b ∈ S :: wr := fun b z => List.mem_cons_of_mem _ z
  have keyat : ∀ {h : Heap}, (∀ b o, h0.get? b = some o → h.get? b = some o) → ∀ p ∈ ks, KyT prog w h p.2 p.1 := fun ab p hp => by
    obtain ⟨o, its, n, e1, r⟩ := ky0 p hp
    exact ⟨o, its, n, ab _ _ e1, r⟩
  have above : ∀ {s s' : Shared}, Moved wr G s s' → (∀ b o, h0.get? b = some o → s.heap.get? b = some o) → ∀ b o, h0.get? b = some o → s'.heap.get? b = some o := fun mv ab b o e =>
    mv.heap b o (fun z => by rw [new0 b (more b z)] at e; cases e) (ab b o e)
  have stay : ∀ {s s' : Shared} {i : Nat}, Moved wr G s s' → (∀ b o, h0.get? b = some o → s'.heap.get? b = some o) → SetK prog w s.heap S ks i → SetK prog w s'.heap S ks i := fun mv ab hS => by
    obtain ⟨L, t, T, pm, sub⟩ := hS
    obtain ⟨o, es, ep, at0, r⟩ := T.ob
    exact ⟨L, t, ⟨⟨o, es, ep, mv.heap S _ outw at0, r⟩, T.tab, T.un, fun p hp => keyat ab p (sub p hp), T.led, T.room, T.few⟩, pm, sub⟩
  intro m
  induction m with
  | zero =>
    intro i s im hst ab hS hR
    have ei : i = n := by omega
    subst ei
    refine codeAny_builtin PyProof.Rows.F.entry_set_update_loop (?_ : wpAny _ _ _ _ _ s)
    rw [Around.under_plainId PyProof.Rows.F.plain_set_update_loop _]
    show wpAny _ A.in1 (pyNext (.ref I) >>= _) _ _ s
    exact wpAny_bind (W.done s _ _ hst fun s' mv => wpAny_pure (hR s' (mv.mono more) (stay mv (above mv ab) hS)))
  | succ m ih =>
    intro i s im hst ab hS hR
    have lt : i < n := by omega
    refine codeAny_builtin PyProof.Rows.F.entry_set_update_loop (?_ : wpAny _ _ _ _ _ s)
    rw [Around.under_plainId PyProof.Rows.F.plain_set_update_loop _]
    show wpAny _ A.in1 (pyNext (.ref I) >>= _) _ _ s
    refine wpAny_bind (W.item i s _ _ lt hst fun v s1 pv st1 mv => ?_)
    obtain ⟨p, hp, rfl⟩ := vals i v pv
    have ab1 := above mv ab
    obtain ⟨L, t, T, pm, sub⟩ := stay mv ab1 hS
    have hx := keyat ab1 p (List.mem_of_getElem? hp)
    have hk : (ks.map (·.2))[i]? = some p.2 := by rw [List.getElem?_map, hp]; rfl
    have ln : L.length ≤ i := by
      have e1 := pm.length_eq
      have e2 := ddA_len ((ks.take i).map (·.2)) []
      rw [List.length_map] at e1
      rw [List.length_map, List.length_take, List.length_nil] at e2
      unfold ddA at e1
      omega
    show wpAny _ A.in1 (holding [Value.ref p.1] (setAdd S (.ref p.1)) >>= _) _ _ s1
    refine wpAny_bind (wpAny_holding ?_)
    unfold setAdd
    refine wpAny_holding (wpAny_bind (wpAny_pyHash_tuple hu hx ?_))
    refine add_on (s := { s1 with toks := s1.toks + (p.2.length + 1) }) T hx hu (by omega) fun b h2 L2 t2 same T2 c1 c2 => ?_
    have ab2 : ∀ b o, h0.get? b = some o → h2.get? b = some o := fun b o e => (same.2 b fun z => by rw [z, new0 S List.mem_cons_self] at e; cases e).trans (ab1 b o e)
    have next : SetK prog w h2 S ks (i + 1) := by
      refine ⟨L2, t2, T2, ?_, fun r hr => ?_⟩
      · rw [List.map_take, ddA_more hk, ← List.map_take]
        by_cases m : p.2 ∈ L.map (·.2)
        · rw [if_pos (pm.mem_iff.mp m), c1 m]
          exact pm
        · rw [if_neg fun z => m (pm.mem_iff.mpr z)]
          have c3 : (L2.map (·.2)).Perm (p.2 :: L.map (·.2)) := (c2 m).map (·.2)
          exact c3.trans ((pm.cons p.2).trans (List.perm_append_singleton p.2 _).symm)
      · by_cases m : p.2 ∈ L.map (·.2)
        · rw [c1 m] at hr
          exact sub r hr
        · rcases List.mem_cons.mp ((c2 m).mem_iff.mp hr) with rfl | hr
          · exact List.mem_of_getElem? hp
          · exact sub r hr
    refine wpAny_pure ⟨plainId_quiet PyProof.Rows.F.plain_set_update_loop _, ih (i + 1) _ (by omega) (W.frame _ s1 _ _ st1 (Nat.le_add_right _ _) fun b hb o z => ?_) ab2 next fun s3 mv3 hS3 => hR s3 (Moved.trans W.gtrans ((mv.mono more).then_heap (Nat.le_add_right _ _) fun b o hb z => ?_) mv3) hS3⟩
    · rw [same.2 b fun q => out (q ▸ hb)]
      exact z
    · rw [same.2 b fun q => hb (q ▸ List.mem_cons_self)]
      exact z
end
section
variable {prog : Program} {w : World} {A : Around} {E : Value → Shared → Prop} {s : Shared}
set_option maxHeartbeats 3200000 in
/-- set(xs), xs a list of tuples of texts and whole numbers -/
theorem set_of_tuples {l : Addr} {its : Array Value} (ks : List (Addr × List Key)) {Q : Value → Shared → Prop} (calm : A.handled = none) (hl : s.heap.IsList l its) (hi : its.toList = ks.map fun p => Value.ref p.1) (few : ks.length < 64) (hu : A.units + 3 < cLine)
    (ky : ∀ p ∈ ks, KyT prog w s.heap p.2 p.1)
    (q : ∀ (h2 : Heap) (tk : Nat), SetK prog w h2 s.heap.objs.size ks ks.length → (∀ b o, b < s.heap.objs.size → s.heap.get? b = some o → h2.get? b = some o) → Q (.ref s.heap.objs.size) { s with heap := h2, toks := tk }) :
    wpAny (model prog w) A (call (.type "set") [.ref l]) Q E s := by
  obtain ⟨_, _, way⟩ := PySem.F.called_set.mro
  have f1 := PySem.F.called_set.made
  have f2 := PySem.F.called_set.sub
  have f3 := PySem.F.called_set.notType
  have f4 := PySem.F.called_set.canCreate
  have f5 := PySem.F.typeCall_set_1 (.ref l)
  refine wpAny_call (codeAny_of_tree (?_ : wpAny _ _ (callAny (.type "set") _) _ _ _))
  refine wpAny_pure ⟨Code.quiet_builtin _ (by decide +kernel), codeAny_builtin PySem.F.entry_type_call (?_ : wpAny _ _ _ _ _ _)⟩
  rw [Around.under_plain (weight_type_call_type "set" [.ref l] []) rfl]
  repeat (any_goals (first | assumption | wp_step))
  refine codeAny_mono (code_set_led1 (.ref l) (E := E) (Q₁ := fun u s1 => u = .ref s.heap.objs.size ∧ s1 = { s with heap := s.heap.push (set0 (!w.params.followText "set-order")) }) ⟨rfl, rfl⟩) fun r s1 hr => ?_
  cases r with
  | error e => exact hr
  | ok fl =>
    cases fl with
    | next => exact hr.elim
    | brk => exact hr.elim
    | cont => exact hr.elim
    | ret u =>
      obtain ⟨rfl, rfl⟩ := hr
      generalize hled : (!w.params.followText "set-order") = led
      have g0 : (s.heap.push (set0 led)).get? s.heap.objs.size = some (set0 led) := Heap.get?_push_size _ rfl
      have ty : Shared.TypeIs { s with heap := s.heap.push (set0 led) } (.ref s.heap.objs.size) "set" := ⟨_, g0, rfl⟩
      have f6 := PySem.F.called_set.init.lookup
      have f7 := PySem.F.called_set.init.bind (.ref s.heap.objs.size)
      repeat (any_goals (first | assumption | wp_step))
      refine codeAny_mono (codeAny_call_builtin (R := wants (fun r s2 => r = .none ∧ ∃ h2 tk, s2 = { s with heap := h2, toks := tk } ∧ SetK prog w h2 s.heap.objs.size ks ks.length ∧ (∀ b o, b < s.heap.objs.size → s.heap.get? b = some o → h2.get? b = some o)) E)
        PySem.F.called_set.init.plain PySem.F.entry_set_init (check_set_init_1 ty ?_)) fun r2 s2 hr2 => ?_
      · obtain ⟨⟨c, d, da, sl⟩, ol, cl, nl, dl⟩ := hl
        simp only at cl dl
        subst cl dl
        have ol1 : (s.heap.push (set0 led)).get? l = some { cls := .type "list", dict := d, data := .seq its nl, slots := sl } := Heap.get?_push_of_some _ ol
        have f8 := PySem.F.sub_list_set
        have f9 := PySem.F.sub_list_frozenset
        have f10 : (Value.type "list" == Value.type "dict") = false := by decide
        have hl1 : (s.heap.push (set0 led)).IsList l its := ⟨_, ol1, rfl, nl, rfl⟩
        unfold Builtin.«set.__init__» noKeywords Builtin.Frozenset.updateFrom
        generalize hPI : pyIter = PI
        wp_walk
        subst hPI
        refine wpAny_pyIter_list hl1 (wpAny_bind (wpAny_runValue ?_))
        have below : l < s.heap.objs.size := Heap.lt_size ol
        have sz1 : (s.heap.push (set0 led)).objs.size = s.heap.objs.size + 1 := Heap.size_push _ _
        have n1 : l ≠ (s.heap.push (set0 led)).objs.size := by
          rw [sz1]
          exact Nat.ne_of_lt (Nat.lt_succ_of_lt below)
        have out : s.heap.objs.size ∉ [(s.heap.push (set0 led)).objs.size, l] := by
          rw [sz1]
          simp only [List.mem_cons, List.not_mem_nil, or_false, not_or]
          exact ⟨Nat.ne_of_lt (Nat.lt_succ_self _), Nat.ne_of_gt below⟩
        have size : ks.length = its.size := by rw [← Array.length_toList, hi, List.length_map]
        have vals : ∀ (i : Nat) (v : Value), its[i]? = some v → ∃ p, ks[i]? = some p ∧ v = .ref p.1 := fun i v z => by
          rw [← Array.getElem?_toList, hi, List.getElem?_map] at z
          obtain ⟨p, e1, e2⟩ := Option.map_eq_some_iff.mp z
          exact ⟨p, e1, e2.symm⟩
        have fresh : ∀ b, s.heap.objs.size ≤ b → s.heap.get? b = none := fun b hb => by
          cases z : s.heap.get? b with
          | none => rfl
          | some o => exact absurd (Heap.lt_size z) (Nat.not_lt.mpr hb)
        refine set_loopK ((Walks.list (show A.in1.in1.in1.handled = none by simp [calm]) _ l n1 its).toS) s.heap.objs.size out ks size few hu vals s.heap ky (fun b hb => ?new) its.size 0 _ (by omega) ⟨⟨_, Heap.get?_push_size _ rfl, rfl, rfl⟩, (hl1.push _)⟩ (fun b o e => Heap.get?_push_of_some _ (Heap.get?_push_of_some _ e)) ?start ?stop
        case new =>
          rcases List.mem_cons.mp hb with rfl | hb
          · exact fresh _ (Nat.le_refl _)
          · rw [List.mem_singleton.mp hb, sz1]
            exact fresh _ (Nat.le_succ _)
        case start =>
          have g1 : ((s.heap.push (set0 led)).push { cls := .type "list_iterator", data := .fields #[.ref l, .int 0 0] }).get? s.heap.objs.size = some (set0 led) := Heap.get?_push_of_some _ g0
          refine ⟨[], .fresh 0 0 led, ⟨⟨_, #[], 0, g1, ⟨rfl, rfl, rfl⟩, rfl, rfl⟩, ⟨.nil, rfl, rfl, .inl rfl, fun x hx => (by cases hx), fun i h j e => (by simp at e)⟩, .nil, fun p hp => (by cases hp), ?_, (by show 0 * 5 < 7 * 3; omega), (by show 0 < 64; omega)⟩, .nil, fun p hp => (by cases hp)⟩
          show _ ∨ led = true
          rw [← hled]
          cases w.params.followText "set-order" with
          | true => exact .inl rfl
          | false => exact .inr rfl
        case stop =>
          rintro ⟨h2, g2, d2, tk2, os2⟩ mv hS
          obtain rfl : g2 = s.gens := mv.gens
          obtain rfl : d2 = s.drawn := mv.drawn
          obtain rfl : os2 = s.os := mv.os
          refine wpAny_pure (?_ : wpAny _ _ (ret Value.none) _ _ _)
          refine wpAny_pure ⟨rfl, h2, tk2, rfl, by rw [size]; exact hS, fun b o hb z => mv.heap b o ?_ (Heap.get?_push_of_some _ (Heap.get?_push_of_some _ z))⟩
          simp only [List.mem_cons, List.not_mem_nil, or_false, not_or]
          exact ⟨Nat.ne_of_lt hb, by rw [sz1]; exact Nat.ne_of_lt (Nat.lt_succ_of_lt hb)⟩
      · cases r2 with
        | error e => exact hr2
        | ok fl2 =>
          cases fl2 with
          | next => exact hr2.elim
          | brk => exact hr2.elim
          | cont => exact hr2.elim
          | ret r =>
            obtain ⟨rfl, h2, tk, rfl, hS, keep⟩ := hr2
            repeat (any_goals (first | assumption | wp_step))
            exact q _ _ hS keep
end
/-- len(set(xs)), xs a list of tuples -/
def tLenSetK (K : PySem.W.Frag) (ta : TE) : TE := fun σ H Q => ta σ H fun x H1 => ∃ (l : Addr) (ks : List (Addr × List Key)), x = .ref l ∧ SqL K H1 l (ks.map fun p => V.ref p.1) ∧ (∀ p ∈ ks, SqT K H1 p.1 (p.2.map kV)) ∧ ks.length < 64 ∧ Q (.int ((ddA (ks.map (·.2))).length : Nat)) H1
theorem pe_lenSetK {X : Cx} (K : PySem.W.Frag) {a : Expr} {ta : TE} {p p2 q pos : Pos} (hu : X.A.units + 64 < cLine) (hc : X.calm = true) (hm : X.mg "len" = none) (hm2 : X.mg "set" = none) (ha : PE X a ta) (hk : X.K = K := by rfl) (hg : Gl X "len" := by rfl) (hg2 : Gl X "set" := by rfl)
    (na : starEach [a] X.env = (false, eval a X.env) :: starEach [] X.env := by rfl) : PE X (.Call (.Name "len" p) [.Call (.Name "set" p2) [a] [] q] [] pos) (tLenSetK K ta) := by
  subst hk
  refine ⟨fun pins s σ H Q I h => ?_⟩
  refine Call_ (ld_blt I hg hm boot_len (PyProof.Rows.callWith_builtin1 (PyProof.Rows.args_cons ?_ rfl) rfl rfl))
  refine Call_ (ld_blt I hg2 hm2 boot_set ?_)
  refine PyProof.Rows.callWith_type1 (PyProof.Rows.args_cons (thn (ha.run pins s σ H _ I h) fun v s1 ⟨x, H1, I1, r1, q1⟩ => PyProof.Rows.args_nil ?_) na) na rfl
  obtain ⟨l, ks, rfl, hq, hks, few, q1⟩ := q1
  cases r1
  obtain ⟨its, r, pl, hz⟩ := I1.list hq
  have hi : its = ks.map fun p => Value.ref p.1 := by
    have := refs_at (ps := ks.map (·.1)) (us := its) (by rw [List.map_map]; exact r)
    rw [this, List.map_map]
    rfl
  refine set_of_tuples ks (I1.ok.hd hc) pl.isList (by simpa using hi) few (by omega) (fun p hp => ?_) fun h2 tk hS keep => PyProof.Rows.args_nil ?_
  · obtain ⟨us, rv, ⟨o, ho, hcl, n, hd⟩, _⟩ := I1.tuple (hks p hp)
    exact ⟨o, us.toArray, n, ho, hcl, hd, by simpa using items_are rv⟩
  obtain ⟨L, t, T, pm, _⟩ := hS
  obtain ⟨o, es, ep, ho, hex, hd, rows⟩ := T.ob
  have I2 : Inv X pins σ H1 { s1 with heap := h2, toks := tk } := I1.kept fun b o e => keep b o (Heap.lt_size e) e
  have n1 : es.size = (ddA (ks.map (·.2))).length := by
    have := pm.length_eq
    rw [List.length_map, List.take_length] at this
    rw [ents_size rows, this]
  have few2 := T.few
  have n2 := ents_size rows
  exact call_len_set ho hex hd (T.fits rows) (by omega) ⟨.int ((ddA (ks.map (·.2))).length : Nat), H1, I2.tok _, ⟨_, by rw [n1]⟩, q1⟩
end Dear

namespace Dear
open PySem PySem.Spec PyProof.Rows L2
/-! ### dict(xs), xs a list of pairs whose keys are tuples of texts and whole numbers -/
def mergeT (kvs : List (List Key × V)) (more : List (List Key × Addr × V)) : List (List Key × V) := more.foldl (fun acc kv => putK acc kv.1 kv.2.2) kvs
theorem mergeT_len : ∀ (more : List (List Key × Addr × V)) (kvs : List (List Key × V)), (mergeT kvs more).length ≤ kvs.length + more.length
  | [], _ => Nat.le_refl _
  | kv :: more, kvs => by
    have h1 := mergeT_len more (putK kvs kv.1 kv.2.2)
    have h2 := length_putK kvs kv.1 kv.2.2
    show (mergeT (putK kvs kv.1 kv.2.2) more).length ≤ _
    rw [List.length_cons]
    omega
abbrev KyP (H : Hp) : List (List Key × Addr × V) → List (List Key × Addr × Value) → Prop := Paired fun p q => p.1 = q.1 ∧ p.2.1 = q.2.1 ∧ H p.2.1 = some (.tup (p.1.map kV)) ∧ RelV p.2.2 q.2.2
theorem kt_merge {H : Hp} {l : List (List Key × Addr × V)} {ps : List (List Key × Addr × Value)} (r : KyP H l ps) : ∀ {kvs : List (List Key × V)} {xs : List (List Key × Addr × Value)}, KT H kvs xs → KT H (mergeT kvs l) (storedAllH xs ps) := by
  induction r with
  | nil => exact fun h => h
  | @cons p q ps qs h t ih =>
    intro kvs xs k
    obtain ⟨e1, e2, e3, e4⟩ := h
    have e : storedAllH xs (q :: qs) = storedAllH (storedH xs p.1 p.2.1 q.2.2) qs := by rw [e1, e2]; rfl
    rw [e]
    exact ih (k.put p.1 (b := p.2.1) e3 e4)
section
variable {X : Cx}
theorem pairsT_of {pins : List (Addr × Obj)} {σ : L2.St} {H : Hp} {s : Shared} (I : Inv X pins σ H s) : ∀ {ps : List Addr} {kvs : List (List Key × Addr × V)}, Paired (fun p kv => SqT X.K H p [.ref kv.2.1, kv.2.2] ∧ H kv.2.1 = some (.tup (kv.1.map kV))) ps kvs →
    ∃ prs : List (List Key × Addr × Value), KyP H kvs prs ∧ prs.length = ps.length ∧ ∀ (j : Nat) (q : List Key × Addr × Value), prs[j]? = some q → ∃ b, ps[j]? = some b ∧ s.heap.IsTuple b #[.ref q.2.1, q.2.2] ∧ IsTupleKey (mixKind X.prog X.w) s.heap q.1 q.2.1
  | _, _, .nil => ⟨[], .nil, rfl, fun j q e => by simp at e⟩
  | _, _, .cons (a := p) (b := kv) h t => by
    obtain ⟨prs, r, hl, hp⟩ := pairsT_of I t
    obtain ⟨its, rv, ht, _⟩ := I.tuple h.1
    obtain ⟨u, y, ei, ru, ry⟩ := vals2 rv
    subst ei
    obtain rfl : u = Value.ref kv.2.1 := ru
    refine ⟨(kv.1, kv.2.1, y) :: prs, .cons ⟨rfl, rfl, h.2, ry⟩ r, by rw [List.length_cons, List.length_cons, hl], fun j q e => ?_⟩
    cases j with
    | zero =>
      have e' : (kv.1, kv.2.1, y) = q := Option.some.inj e
      subst e'
      obtain ⟨o, h1, h2, n, h3⟩ := ht
      exact ⟨p, rfl, ⟨o, h1, h2, n, h3⟩, key_of I.hok h.2⟩
    | succ j =>
      obtain ⟨b, e1, e2⟩ := hp j q (by simpa using e)
      exact ⟨b, by simpa using e1, e2⟩
def rDictT (K : PySem.W.Frag) : List V → Hp → VK → Prop := fun xs H Q => ∃ (a : Addr) (ps : List Addr) (kvs : List (List Key × Addr × V)), xs = [.ref a] ∧ SqL K H a (ps.map V.ref) ∧
  Paired (fun p kv => SqT K H p [.ref kv.2.1, kv.2.2] ∧ H kv.2.1 = some (.tup (kv.1.map kV))) ps kvs ∧ ∀ p, H p = none → Q (.ref p) (upd H p (.dT (mergeT [] kvs)))
theorem call_dictT (hu : X.A.units + 64 < cLine) (hcalm : X.calm = true) : CallR X (.type "dict") (rDictT X.K) := by
  intro pins s σ H xs us Q I r q
  obtain ⟨a, ps, kvs, ex, hq, hp, q⟩ := q
  subst ex
  obtain ⟨u, eu, rx⟩ := vals1 r
  subst eu
  cases rx
  obtain ⟨its, rv, pl, hz⟩ := I.list hq
  have ei := refs_at rv
  subst ei
  rw [List.length_map] at hz
  obtain ⟨prs, rel, hl, hpr⟩ := pairsT_of I hp
  obtain ⟨o, n, ho, hc, hd, hdat⟩ := pl
  refine call_dict_pairsH (knd := tupleKind (mixKind X.prog X.w)) (ps := prs) (PairArg.list a (ps.map Value.ref).toArray (fun j => (ps[j]?).getD 0) (prs.map fun q => (Value.ref q.2.1, q.2.2))) (I.ok.hd hcalm) (by show X.A.units + 1 + 1 < cLine; omega)
    ⟨⟨o, n, ho, hc, hd, hdat⟩, by simp [hl], fun j k v e => ?_⟩ ⟨by rw [List.length_map], fun i k v e => ?_⟩ (fun h' hk x hx => ?_) (by rw [List.length_map, hl]; exact hz) fun h' tk dd k => ?_
  · rw [List.getElem?_map] at e
    obtain ⟨q', e1, e2⟩ := Option.map_eq_some_iff.mp e
    cases e2
    obtain ⟨b, e3, e4, _⟩ := hpr j q' e1
    have eb : (ps[j]?).getD 0 = b := by rw [e3]; rfl
    show (ps.map Value.ref).toArray[j]? = some (.ref ((ps[j]?).getD 0)) ∧ PairAt s.heap ((ps[j]?).getD 0) _ _
    rw [eb]
    exact ⟨by simp [e3], .inl e4⟩
  · rw [PairRel, List.getElem?_map] at e
    obtain ⟨q', e1, e2⟩ := Option.map_eq_some_iff.mp e
    cases e2
    exact ⟨_, _, e1, rfl⟩
  · obtain ⟨i, hi, ei⟩ := List.getElem_of_mem hx
    obtain ⟨b, _, _, o', its', n', e1, e2, e3, e4⟩ := hpr i x (by rw [List.getElem?_eq_getElem hi, ei])
    exact ⟨o', its', n', hk _ _ (Nat.ne_of_lt (Heap.lt_size e1)) (List.not_mem_nil) e1, e2, e3, e4⟩
  · have hm : (s.heap.objs.size == sysModules) = false := beq_eq_false_iff_ne.mpr (Nat.ne_of_gt I.big)
    have hlen : (mergeT [] kvs).length ≤ sizeLine := by
      refine Nat.le_trans (mergeT_len kvs []) ?_
      rw [List.length_nil, Nat.zero_add, rel.length, hl]
      exact hz
    have fresh := I.hok.fresh (Nat.le_refl s.heap.objs.size)
    obtain ⟨q0, es, epx, g1, g2, g3, g4, _, g5⟩ := dd
    exact ⟨.ref s.heap.objs.size, upd H s.heap.objs.size (.dT (mergeT [] kvs)), I.laid (t' := tk) (fun b o e => k b o List.not_mem_nil e) (Nat.le_refl _)
      (show ObjOk X.prog X.w _ _ _ (.dT (mergeT [] kvs)) from ⟨hlen, hm, storedAllH [] prs, (kt_merge rel .nil).keeps fun c ys ec => (by rw [upd_ne fun z => by rw [z, fresh] at ec; cases ec]; exact ec), q0, es, epx, g1, g2, g3, g4, g5⟩), rfl, q _ fresh⟩
end
end Dear

namespace Du
open PySem PySem.Spec PyProof.Rows L2
abbrev St := L2.St
/-! ### data: what values stand for; the layer of functions (see NOTES, «u») -/
inductive D where
  | non | bl (b : Bool) | int (i : Int) | str (z : Str) | lst (ds : List D) | tup (ds : List D) | scr (ns : List Int)
  | dct (t : Bool) (kvs : List (D × D))
  | exc (c : Str) (fs : List (Str × D))
noncomputable instance : DecidableEq D := fun a b => Classical.propDecidable (a = b)
/-- flat keys -/
def keyD : Key → D
  | .inl i => .int i
  | .inr x => .str x
def keysD (ks : List Key) : D := .tup (ks.map keyD)
/-- tuples that may be constants of the module's top: those that no dict and no set has as a key -/
def tkOk : List D → Bool
  | [.str _, .str _, .str _] => true
  | .str _ :: _ => false
  | _ => true
/-- a tuple of the module's top -/
def KTp (K : PySem.W.Frag) (a : Addr) (xs : List V) : Prop := ∃ (o : Obj) (its : Array Value) (n : Nat), K.lookup a = some o ∧ o.cls = .type "tuple" ∧ o.data = .seq its n ∧ its.size ≤ sizeLine ∧ Vals xs its.toList
theorem keyD_inj {a b : Key} (h : keyD a = keyD b) : a = b := by
  cases a <;> cases b <;> simp [keyD] at h <;> subst h <;> rfl
theorem keysD_inj : ∀ {a b : List Key}, a.map keyD = b.map keyD → a = b
  | [], [], _ => rfl
  | [], _ :: _, h => by simp at h
  | _ :: _, [], h => by simp at h
  | x :: a, y :: b, h => by
    simp only [List.map_cons, List.cons.injEq] at h
    rw [keyD_inj h.1, keysD_inj h.2]
mutual
inductive Dt (K : PySem.W.Frag) (F : Hp) : V → D → Prop
  | non : Dt K F .non .non
  | bl (b : Bool) : Dt K F (.bl b) (.bl b)
  | int (i : Int) : Dt K F (.int i) (.int i)
  | str (z : Str) : Dt K F (.str z) (.str z)
  | lst {a : Addr} {xs : List V} {ds : List D} : F a = some (.lst xs) → DtAll K F xs ds → Dt K F (.ref a) (.lst ds)
  | scr {a : Addr} {ns : List Int} : SqL K F a (ns.map V.int) → Dt K F (.ref a) (.scr ns)
  | tup {a : Addr} {xs : List V} {ds : List D} : F a = some (.tup xs) → DtAll K F xs ds → Dt K F (.ref a) (.tup ds)
  | tk {a : Addr} {xs : List V} {ds : List D} : KTp K a xs → DtAll K F xs ds → tkOk ds = true → Dt K F (.ref a) (.tup ds)
  | dk {a : Addr} {kvs : List (Key × V)} {ds : List (D × D)} : Rd F a (.dK kvs) → DtAll K F (kvs.map (·.2)) (ds.map (·.2)) → ds.map (·.1) = kvs.map (fun p => keyD p.1) → Dt K F (.ref a) (.dct false ds)
  | dt {a : Addr} {kvs : List (List Key × V)} {ds : List (D × D)} : F a = some (.dT kvs) → DtAll K F (kvs.map (·.2)) (ds.map (·.2)) → ds.map (·.1) = kvs.map (fun p => keysD p.1) → Dt K F (.ref a) (.dct true ds)
inductive DtAll (K : PySem.W.Frag) (F : Hp) : List V → List D → Prop
  | nil : DtAll K F [] []
  | cons {v : V} {vs : List V} {d : D} {ds : List D} : Dt K F v d → DtAll K F vs ds → DtAll K F (v :: vs) (d :: ds)
end
/-- what is told of F holds of G, too (G may have locked what F has) -/
def Below (F G : Hp) : Prop := ∀ a o, F a = some o → G a = some o ∨ ∃ kvs ob, o = .dK kvs ∧ G a = some (.frz ob o)
theorem Below.refl (F : Hp) : Below F F := fun _ _ h => .inl h
theorem Below.of {F G : Hp} (s : Same F G) : Below F G := fun a o h => .inl (s a o h)
theorem Below.rd {F G : Hp} {a : Addr} {u : HO} (s : Below F G) (h : Rd F a u) : Rd G a u := by
  rcases h with h | ⟨ob, h⟩
  · rcases s _ _ h with h | ⟨_, ob, rfl, h⟩
    · exact .inl h
    · exact .inr ⟨ob, h⟩
  · rcases s _ _ h with h | ⟨_, _, n, h⟩
    · exact .inr ⟨ob, h⟩
    · cases n
section
variable {K : PySem.W.Frag} {F G : Hp}
theorem Below.lst {a : Addr} {xs : List V} (s : Below F G) (h : F a = some (.lst xs)) : G a = some (.lst xs) := by
  rcases s _ _ h with h | ⟨_, _, n, _⟩
  · exact h
  · cases n
theorem Below.tup {a : Addr} {xs : List V} (s : Below F G) (h : F a = some (.tup xs)) : G a = some (.tup xs) := by
  rcases s _ _ h with h | ⟨_, _, n, _⟩
  · exact h
  · cases n
theorem Below.dt {a : Addr} {xs : List (List Key × V)} (s : Below F G) (h : F a = some (.dT xs)) : G a = some (.dT xs) := by
  rcases s _ _ h with h | ⟨_, _, n, _⟩
  · exact h
  · cases n
theorem Below.sql {a : Addr} {xs : List V} (s : Below F G) (h : SqL K F a xs) : SqL K G a xs := by
  rcases h with h | h
  · exact .inl (s.rd h)
  · exact .inr h
theorem Below.sqt {a : Addr} {xs : List V} (s : Below F G) (h : SqT K F a xs) : SqT K G a xs := by
  rcases h with h | h
  · exact .inl (s.rd h)
  · exact .inr h
mutual
theorem Dt.mv (s : Below F G) : ∀ {v : V} {d : D}, Dt K F v d → Dt K G v d
  | _, _, .non => .non
  | _, _, .bl b => .bl b
  | _, _, .int i => .int i
  | _, _, .str z => .str z
  | _, _, .lst h a => .lst (s.lst h) (DtAll.mv s a)
  | _, _, .scr h => .scr (s.sql h)
  | _, _, .tup h a => .tup (s.tup h) (DtAll.mv s a)
  | _, _, .tk h a o => .tk h (DtAll.mv s a) o
  | _, _, .dk h a e => .dk (s.rd h) (DtAll.mv s a) e
  | _, _, .dt h a e => .dt (s.dt h) (DtAll.mv s a) e
theorem DtAll.mv (s : Below F G) : ∀ {vs : List V} {ds : List D}, DtAll K F vs ds → DtAll K G vs ds
  | _, _, .nil => .nil
  | _, _, .cons a b => .cons (Dt.mv s a) (DtAll.mv s b)
end
theorem Dt.same (s : Same F G) {v : V} {d : D} (h : Dt K F v d) : Dt K G v d := h.mv (.of s)
theorem DtAll.same (s : Same F G) {v : List V} {d : List D} (h : DtAll K F v d) : DtAll K G v d := h.mv (.of s)
theorem DtAll.length : ∀ {vs : List V} {ds : List D}, DtAll K F vs ds → vs.length = ds.length
  | _, _, .nil => rfl
  | _, _, .cons _ b => by rw [List.length_cons, List.length_cons, DtAll.length b]
theorem DtAll.get : ∀ {vs : List V} {ds : List D} {i : Nat} {v : V}, DtAll K F vs ds → vs[i]? = some v → ∃ d, ds[i]? = some d ∧ Dt K F v d
  | _, _, _, _, .nil, e => by simp at e
  | _, _, 0, _, .cons a _, e => by
    simp at e
    subst e
    exact ⟨_, rfl, a⟩
  | _, _, i + 1, v, .cons _ b, e => by
    obtain ⟨d, h1, h2⟩ := DtAll.get (i := i) (v := v) b (by simpa using e)
    exact ⟨d, by simpa using h1, h2⟩
theorem DtAll.at : ∀ {vs : List V} {ds : List D} {i : Nat} {d : D}, DtAll K F vs ds → ds[i]? = some d → ∃ v, vs[i]? = some v ∧ Dt K F v d
  | _, _, _, _, .nil, e => by simp at e
  | _, _, 0, _, .cons a _, e => by
    simp at e
    subst e
    exact ⟨_, rfl, a⟩
  | _, _, i + 1, d, .cons _ b, e => by
    obtain ⟨v, h1, h2⟩ := DtAll.at (i := i) (d := d) b (by simpa using e)
    exact ⟨v, by simpa using h1, h2⟩
theorem DtAll.app : ∀ {vs us : List V} {ds es : List D}, DtAll K F vs ds → DtAll K F us es → DtAll K F (vs ++ us) (ds ++ es)
  | _, _, _, _, .nil, s => s
  | _, _, _, _, .cons a b, s => .cons a (DtAll.app b s)
theorem DtAll.take : ∀ (n : Nat) {vs : List V} {ds : List D}, DtAll K F vs ds → DtAll K F (vs.take n) (ds.take n)
  | 0, _, _, _ => .nil
  | _ + 1, _, _, .nil => .nil
  | n + 1, _, _, .cons a b => .cons a (DtAll.take n b)
theorem DtAll.drop : ∀ (n : Nat) {vs : List V} {ds : List D}, DtAll K F vs ds → DtAll K F (vs.drop n) (ds.drop n)
  | 0, _, _, h => h
  | _ + 1, _, _, .nil => .nil
  | n + 1, _, _, .cons _ b => DtAll.drop n b
theorem DtAll.rev : ∀ {vs : List V} {ds : List D}, DtAll K F vs ds → DtAll K F vs.reverse ds.reverse
  | _, _, .nil => .nil
  | _, _, .cons a b => by
    rw [List.reverse_cons, List.reverse_cons]
    exact (DtAll.rev b).app (.cons a .nil)
theorem DtAll.set {v : V} {d : D} (h : Dt K F v d) : ∀ {vs : List V} {ds : List D} (i : Nat), DtAll K F vs ds → DtAll K F (vs.set i v) (ds.set i d)
  | _, _, _, .nil => .nil
  | _, _, 0, .cons _ t => .cons h t
  | _, _, i + 1, .cons q t => .cons q (DtAll.set h i t)
theorem Dt.intE {v : V} {i : Int} (h : Dt K F v (.int i)) : v = .int i := by cases h; rfl
theorem Dt.strE {v : V} {z : Str} (h : Dt K F v (.str z)) : v = .str z := by cases h; rfl
theorem Dt.blE {v : V} {b : Bool} (h : Dt K F v (.bl b)) : v = .bl b := by cases h; rfl
theorem Dt.nonE {v : V} (h : Dt K F v .non) : v = .non := by cases h; rfl
theorem Dt.lstE {v : V} {ds : List D} (h : Dt K F v (.lst ds)) : ∃ a xs, v = .ref a ∧ F a = some (.lst xs) ∧ DtAll K F xs ds := by
  cases h with
  | lst h a => exact ⟨_, _, rfl, h, a⟩
theorem Dt.tupE {v : V} {ds : List D} (h : Dt K F v (.tup ds)) : ∃ a xs, v = .ref a ∧ SqT K F a xs ∧ DtAll K F xs ds := by
  cases h with
  | tup h a => exact ⟨_, _, rfl, .inl (.inl h), a⟩
  | tk h a o => exact ⟨_, _, rfl, .inr h, a⟩
theorem Dt.ints {F : Hp} : ∀ (ns : List Int), DtAll K F (ns.map V.int) (ns.map D.int)
  | [] => .nil
  | n :: r => .cons (.int n) (Dt.ints r)
theorem DtAll.strsE : ∀ {vs : List V} {ns : List Str}, DtAll K F vs (ns.map D.str) → vs = ns.map V.str
  | _, [], .nil => rfl
  | _, n :: ns, .cons a b => by
    rw [a.strE, DtAll.strsE b]
    rfl
end
/-! no list, no dict within -/
mutual
def imm : D → Bool
  | .lst _ => false
  | .scr _ => false
  | .dct _ _ => false
  | .exc _ _ => false
  | .tup ds => imms ds
  | _ => true
def imms : List D → Bool
  | [] => true
  | d :: ds => imm d && imms ds
end
/-- behind Same F G, without a list or a dict: tuples alone are borne -/
def Tups (F G : Hp) : Prop := ∀ a xs, F a = some (.tup xs) → G a = some (.tup xs)
mutual
theorem Dt.tups {K : PySem.W.Frag} {F G : Hp} (s : Tups F G) : ∀ {v : V} {d : D}, imm d = true → Dt K F v d → Dt K G v d
  | _, _, _, .non => .non
  | _, _, _, .bl b => .bl b
  | _, _, _, .int i => .int i
  | _, _, _, .str z => .str z
  | _, _, i, .lst _ _ => by cases i
  | _, _, i, .scr _ => by cases i
  | _, _, i, .tup h a => .tup (s _ _ h) (DtAll.tups s i a)
  | _, _, i, .tk h a o => .tk h (DtAll.tups s i a) o
  | _, _, i, .dk _ _ _ => by cases i
  | _, _, i, .dt _ _ _ => by cases i
theorem DtAll.tups {K : PySem.W.Frag} {F G : Hp} (s : Tups F G) : ∀ {vs : List V} {ds : List D}, imms ds = true → DtAll K F vs ds → DtAll K G vs ds
  | _, _, _, .nil => .nil
  | _, _, i, .cons a b => by
    simp only [imms, Bool.and_eq_true] at i
    exact .cons (Dt.tups s i.1 a) (DtAll.tups s i.2 b)
end
/-! ### results -/
structure Ex where
  cls : Str
  fs : List (Str × D)
inductive Res (α : Type) where
  | ok (a : α)
  | exc (x : Ex)
  | bad
def Res.bind {α β : Type} (r : Res α) (f : α → Res β) : Res β :=
  match r with
  | .ok a => f a
  | .exc x => .exc x
  | .bad => .bad
def Res.map {α β : Type} (r : Res α) (f : α → β) : Res β := r.bind fun a => .ok (f a)
section
variable {α β : Type}
@[simp] theorem Res.bind_ok (a : α) (f : α → Res β) : (Res.ok a).bind f = f a := rfl
@[simp] theorem Res.bind_exc (x : Ex) (f : α → Res β) : (Res.exc x).bind f = .exc x := rfl
@[simp] theorem Res.bind_bad (f : α → Res β) : (Res.bad : Res α).bind f = .bad := rfl
@[simp] theorem Res.map_ok (a : α) (f : α → β) : (Res.ok a).map f = .ok (f a) := rfl
theorem Res.bind_assoc {γ : Type} (r : Res α) (f : α → Res β) (g : β → Res γ) : (r.bind f).bind g = r.bind fun a => (f a).bind g := by cases r <;> rfl
end
/-- a list's length is within the line -/
def fit (n : Nat) : Bool := Nat.ble n 16777215
theorem fit_line {n : Nat} (h : fit n = true) : n < sizeLine := by
  rw [sizeLine_eq]
  have := Nat.le_of_ble_eq_true h
  omega
theorem fit_of {n : Nat} (h : n ≤ 16777215) : fit n = true := Nat.ble_eq_true_of_le h
def guard' (b : Bool) : Res Unit := if b = true then .ok () else .bad
end Du

namespace Du
open PySem PySem.Spec PyProof.Rows L2
/-! ### what grows: H the heap, F the part that is told of -/
structure Gr (F H F' H' : Hp) : Prop where
  hh : Same H H'
  ff : Same F F'
  fh : Same F' H'
  nw : ∀ a o, F' a = some o → F a = some o ∨ H a = none
section
variable {F H F1 H1 F2 H2 : Hp}
theorem Gr.refl (s : Same F H) : Gr F H F H := ⟨.refl _, .refl _, s, fun _ _ h => .inl h⟩
theorem Gr.trans (a : Gr F H F1 H1) (b : Gr F1 H1 F2 H2) : Gr F H F2 H2 := ⟨a.hh.trans b.hh, a.ff.trans b.ff, b.fh, fun p o h => by
  rcases b.nw p o h with h | h
  · exact a.nw p o h
  · exact .inr (a.hh.free h)⟩
theorem sm_upd {H : Hp} {l : Addr} {o : HO} (h : H l = none) : Same H (upd H l o) := fun b u e => by
  rw [upd_ne (ne_of_none e h)]
  exact e
theorem sm_upd2 {F H : Hp} {l : Addr} {o : HO} (s : Same F H) : Same (upd F l o) (upd H l o) := fun b u e => by
  by_cases h : b = l
  · subst h
    rw [upd_same] at e ⊢
    exact e
  · rw [upd_ne h] at e ⊢
    exact s _ _ e
theorem Gr.new {p : Addr} {o : HO} (s : Same F H) (hp : H p = none) : Gr F H (upd F p o) (upd H p o) := ⟨sm_upd hp, sm_upd (s.free hp), sm_upd2 s, fun a u e => by
  by_cases h : a = p
  · subst h
    exact .inr hp
  · rw [upd_ne h] at e
    exact .inl e⟩
/-- new, but not told of -/
theorem Gr.hid {p : Addr} {o : HO} (s : Same F H) (hp : H p = none) : Gr F H F (upd H p o) := ⟨sm_upd hp, .refl _, s.trans (sm_upd hp), fun _ _ h => .inl h⟩
end
/-! ### slots as data -/
abbrev VEnv := List (Option D)
structure Vw (K : PySem.W.Frag) (F : Hp) (σ : St) (ρ : VEnv) : Prop where
  len : σ.length = ρ.length
  get : ∀ (i : Nat) (d : D), ρ[i]? = some (some d) → ∃ v, σ[i]? = some (some v) ∧ Dt K F v d
theorem Vw.same {K : PySem.W.Frag} {F G : Hp} {σ : St} {ρ : VEnv} (h : Vw K F σ ρ) (s : Same F G) : Vw K G σ ρ := ⟨h.len, fun i d e => by
  obtain ⟨v, h1, h2⟩ := h.get i d e
  exact ⟨v, h1, h2.same s⟩⟩
/-! ### exceptions: the wish behind them -/
/-- an exception as the law's text sees it: its class, its own dict -/
def ExIs (K : PySem.W.Frag) (mg : Str → Option Value) (x : Ex) (F : Hp) (C : Value) (dd : Option Addr) : Prop :=
  mg x.cls = some C ∧ match x.fs with
    | [] => dd = none
    | [(f, d)] => ∃ a v, dd = some a ∧ F a = some (.xd [(f, v)]) ∧ Dt K F v d
    | _ => False
structure XM where
  mg : Str → Option Value
  W : WX
abbrev XMo := Option XM
def Xw (K : PySem.W.Frag) (xm : XMo) (σ : St) (F H : Hp) (x : Ex) : Prop := match xm with
  | none => False
  | some m => ∀ C dd F' H', Gr F H F' H' → ExIs K m.mg x F' C dd → m.W C dd σ H'
theorem Xw.mono {K : PySem.W.Frag} {xm : XMo} {σ : St} {F H F1 H1 : Hp} {x : Ex} (h : Xw K xm σ F H x) (g : Gr F H F1 H1) : Xw K xm σ F1 H1 x := by
  cases xm with
  | none => exact h.elim
  | some m => exact fun C dd F' H' g' => h C dd F' H' (g.trans g')
/-! ### what a reading has to give -/
def Po {α ω : Type} (R : Hp → ω → α → Prop) (K : PySem.W.Frag) (xm : XMo) (σ : St) (F H : Hp) (r : Res α) (Q : ω → Hp → Prop) : Prop := match r with
  | .ok a => ∀ w F' H', Gr F H F' H' → R F' w a → Q w H'
  | .exc x => Xw K xm σ F H x
  | .bad => False
section
variable {α β ω ω' : Type} {R : Hp → ω → α → Prop} {R' : Hp → ω' → β → Prop} {K : PySem.W.Frag} {xm : XMo} {σ : St} {F H F1 H1 : Hp}
theorem Po.mono {r : Res α} {Q : ω → Hp → Prop} (h : Po R K xm σ F H r Q) (g : Gr F H F1 H1) : Po R K xm σ F1 H1 r Q := by
  cases r with
  | ok a => exact fun w F' H' g' => h w F' H' (g.trans g')
  | exc x => exact Xw.mono h g
  | bad => exact h
theorem Po.seq {r : Res α} {f : α → Res β} {Q : ω' → Hp → Prop} {W : ω → Hp → Prop} (k : Po R' K xm σ F H (r.bind f) Q) (n : ∀ a w F1 H1, Gr F H F1 H1 → R F1 w a → Po R' K xm σ F1 H1 (f a) Q → W w H1) : Po R K xm σ F H r W := by
  cases r with
  | ok a => exact fun w F1 H1 g d => n a w F1 H1 g d (Po.mono k g)
  | exc x => exact k
  | bad => exact k
theorem Po.done {a : α} {w : ω} {Q : ω → Hp → Prop} (k : Po R K xm σ F H (.ok a) Q) (s : Same F H) (h : R F w a) : Q w H := k w F H (.refl s) h
theorem Po.new {a : α} {w : ω} {Q : ω → Hp → Prop} {p : Addr} {o : HO} (k : Po R K xm σ F H (.ok a) Q) (s : Same F H) (hp : H p = none) (h : R (upd F p o) w a) : Q w (upd H p o) := k w _ _ (.new s hp) h
end
abbrev RD (K : PySem.W.Frag) : Hp → V → D → Prop := fun F v d => Dt K F v d
abbrev RL (K : PySem.W.Frag) : Hp → List V → List D → Prop := fun F v d => DtAll K F v d
abbrev RB : Hp → Bool → Bool → Prop := fun _ b c => b = c
/-! ### readings by functions -/
def tF (K : PySem.W.Frag) (xm : XMo) (f : VEnv → Res D) : TE := fun σ H Q => ∃ F ρ, Same F H ∧ Vw K F σ ρ ∧ Po (RD K) K xm σ F H (f ρ) Q
def bF (K : PySem.W.Frag) (xm : XMo) (f : VEnv → Res Bool) : TT := fun σ H Q => ∃ F ρ, Same F H ∧ Vw K F σ ρ ∧ Po RB K xm σ F H (f ρ) Q
def aF (K : PySem.W.Frag) (xm : XMo) (f : VEnv → Res (List D)) : TA := fun σ H Q => ∃ F ρ, Same F H ∧ Vw K F σ ρ ∧ Po (RL K) K xm σ F H (f ρ) Q
theorem PE.to {X : Cx} {e : Expr} {t t' : TE} (h : PE X e t) (m : ∀ σ H Q, t' σ H Q → t σ H Q) : PE X e t' := ⟨fun pins s σ H Q I q => h.run pins s σ H Q I (m _ _ _ q)⟩
theorem PT.to {X : Cx} {e : Expr} {t t' : TT} (h : PT X e t) (m : ∀ σ H Q, t' σ H Q → t σ H Q) : PT X e t' := ⟨fun pins s σ H Q I q => h.run pins s σ H Q I (m _ _ _ q)⟩
theorem PW.to {X : Cx} {e : Expr} {t t' : TT} (h : PW X e t) (m : ∀ σ H Q, t' σ H Q → t σ H Q) : PW X e t' := ⟨fun wh pins s σ H Q I q => h.run wh pins s σ H Q I (m _ _ _ q)⟩
theorem PA.to {X : Cx} {e : List Expr} {t t' : TA} (h : PA X e t) (m : ∀ σ H Q, t' σ H Q → t σ H Q) : PA X e t' := ⟨fun pos pins s σ H Q I q => h.run pos pins s σ H Q I (m _ _ _ q)⟩
theorem PS.to {X : Cx} {e : Stmt} {t t' : TS} (h : PS X e t) (m : ∀ D σ H, t' D σ H → t D σ H) : PS X e t' := ⟨fun pins s σ H D I q => h.run pins s σ H D I (m _ _ _ q)⟩
theorem PSs.to {X : Cx} {e : List Stmt} {t t' : TS} (h : PSs X e t) (m : ∀ D σ H, t' D σ H → t D σ H) : PSs X e t' := ⟨fun pins s σ H D I q => h.run pins s σ H D I (m _ _ _ q)⟩
/-- FE: the expression e computes f -/
abbrev FE (K : PySem.W.Frag) (xm : XMo) (X : Cx) (e : Expr) (f : VEnv → Res D) : Prop := PE X e (tF K xm f)
abbrev FT (K : PySem.W.Frag) (xm : XMo) (X : Cx) (e : Expr) (f : VEnv → Res Bool) : Prop := PT X e (bF K xm f)
abbrev FW (K : PySem.W.Frag) (xm : XMo) (X : Cx) (e : Expr) (f : VEnv → Res Bool) : Prop := PW X e (bF K xm f)
abbrev FA (K : PySem.W.Frag) (xm : XMo) (X : Cx) (e : List Expr) (f : VEnv → Res (List D)) : Prop := PA X e (aF K xm f)
/-! ### names, constants -/
def eVar (i : Nat) : VEnv → Res D := fun ρ => match ρ[i]? with
  | some (some d) => .ok d
  | _ => .bad
def eC (d : D) : VEnv → Res D := fun _ => .ok d
section
variable {K : PySem.W.Frag} {xm : XMo} {X : Cx}
theorem tF.var {i : Nat} {σ : St} {H : Hp} {Q : VK} (h : tF K xm (eVar i) σ H Q) : tVar i σ H Q := by
  obtain ⟨F, ρ, sF, vw, k⟩ := h
  unfold eVar at k
  split at k
  · rename_i d e
    obtain ⟨v, h1, h2⟩ := vw.get i d e
    exact ⟨v, h1, k.done sF h2⟩
  · exact k.elim
theorem fe_var (i : Nat) {x : Str} {pos : Pos} (hN : X.N[i]? = some x := by rfl) (hv : Vis X.env.scope x := by first | exact Or.inl rfl | exact Or.inr (Or.inl rfl) | exact Or.inr (Or.inr rfl)) (hd : (x == ("__debug__" : Str)) = false := by decide)
    (hcd : (x == ("__classdict__" : Str)) = false := by decide) : FE K xm X (.Name x pos) (eVar i) := PE.to (pv i hN hv hd hcd) fun _ _ _ h => h.var
theorem fe_cst {e : Expr} {v : V} {d : D} (h : PE X e (tC v)) (hd : ∀ F, Dt K F v d) : FE K xm X e (eC d) := PE.to h fun σ H Q ⟨F, ρ, sF, vw, k⟩ => k.done sF (hd F)
theorem fe_int {i : Int} {j : Nat} {pos : Pos} : FE K xm X (.Constant (.int i) j pos) (eC (.int i)) := fe_cst pe_int fun _ => .int _
theorem fe_bl {i : Bool} {j : Nat} {pos : Pos} : FE K xm X (.Constant (.bool i) j pos) (eC (.bl i)) := fe_cst pe_bl fun _ => .bl _
theorem fe_non {j : Nat} {pos : Pos} : FE K xm X (.Constant .none j pos) (eC .non) := fe_cst pe_non fun _ => .non
theorem fe_str {x : Str} {j : Nat} {pos : Pos} : FE K xm X (.Constant (.str x) j pos) (eC (.str x)) := fe_cst pe_str fun _ => .str _
theorem fe_gi {x : Str} {i : Int} {pos : Pos} (h : ∃ t, X.mg x = some (.int i t)) (hg : Gl X x := by rfl) (hd : (x == ("__debug__" : Str)) = false := by decide) : FE K xm X (.Name x pos) (eC (.int i)) := fe_cst (Dear.pe_gi h hg hd) fun _ => .int _
theorem fe_gs {x : Str} {i : Str} {pos : Pos} (h : ∃ t, X.mg x = some (.str i t)) (hg : Gl X x := by rfl) (hd : (x == ("__debug__" : Str)) = false := by decide) : FE K xm X (.Name x pos) (eC (.str i)) := fe_cst (Dear.pe_gs h hg hd) fun _ => .str _
/-- a tuple of the module's top -/
theorem fe_gt {x : Str} {xs : List V} {ds : List D} {pos : Pos} (h : ∃ a, X.mg x = some (.ref a) ∧ KTp K a xs) (hv : ∀ F, DtAll K F xs ds) (ho : tkOk ds = true := by rfl) (hg : Gl X x := by rfl) (hd : (x == ("__debug__" : Str)) = false := by decide) : FE K xm X (.Name x pos) (eC (.tup ds)) := by
  obtain ⟨a, h1, h2⟩ := h
  exact fe_cst (v := .ref a) (pe_glob (v := .ref a) hg h1 rfl hd) fun F => .tk h2 (hv F) ho
/-! ### operators by values -/
/-- the rule r does what g says -/
def OpD (K : PySem.W.Frag) (r : R2) (g : D → D → Res D) : Prop := ∀ (xm : XMo) σ F H x y a b Q, Same F H → Dt K F x a → Dt K F y b → Po (RD K) K xm σ F H (g a b) Q → r x y H Q
def UnD (K : PySem.W.Frag) (r : V → Hp → VK → Prop) (g : D → Res D) : Prop := ∀ (xm : XMo) σ F H x a Q, Same F H → Dt K F x a → Po (RD K) K xm σ F H (g a) Q → r x H Q
def CallD (K : PySem.W.Frag) (r : List V → Hp → VK → Prop) (g : List D → Res D) : Prop := ∀ (xm : XMo) σ F H xs ds Q, Same F H → DtAll K F xs ds → Po (RD K) K xm σ F H (g ds) Q → r xs H Q
def eOp (g : D → D → Res D) (fa fb : VEnv → Res D) : VEnv → Res D := fun ρ => (fa ρ).bind fun a => (fb ρ).bind fun b => g a b
def eUn (g : D → Res D) (fa : VEnv → Res D) : VEnv → Res D := fun ρ => (fa ρ).bind g
theorem tF.op {r : R2} {g : D → D → Res D} {fa fb : VEnv → Res D} (h : OpD K r g) {σ : St} {H : Hp} {Q : VK} (k : tF K xm (eOp g fa fb) σ H Q) : tOp r (tF K xm fa) (tF K xm fb) σ H Q := by
  obtain ⟨F, ρ, sF, vw, k⟩ := k
  refine ⟨F, ρ, sF, vw, Po.seq k fun a x F1 H1 g1 d1 k1 => ⟨F1, ρ, g1.fh, vw.same g1.ff, Po.seq k1 fun b y F2 H2 g2 d2 k2 => h xm σ F2 H2 x y a b Q g2.fh (Dt.same g2.ff d1) d2 k2⟩⟩
theorem tF.un {r : V → Hp → VK → Prop} {g : D → Res D} {fa : VEnv → Res D} (h : UnD K r g) {σ : St} {H : Hp} {Q : VK} (k : tF K xm (eUn g fa) σ H Q) : tUn r (tF K xm fa) σ H Q := by
  obtain ⟨F, ρ, sF, vw, k⟩ := k
  exact ⟨F, ρ, sF, vw, Po.seq k fun a x F1 H1 g1 d1 k1 => h xm σ F1 H1 x a Q g1.fh d1 k1⟩
theorem fe_op {a b : Expr} {op : Operator} {pos : Pos} {r : R2} {g : D → D → Res D} {fa fb : VEnv → Res D} (ho : OpR X (binaryOp op) r) (h : OpD K r g) (ha : FE K xm X a fa) (hb : FE K xm X b fb) : FE K xm X (.BinOp a op b pos) (eOp g fa fb) :=
  PE.to (pe_op ho ha hb) fun _ _ _ k => k.op h
theorem fe_cmp {a b : Expr} {op : CmpOp} {pos : Pos} {r : R2} {g : D → D → Res D} {fa fb : VEnv → Res D} (ho : OpR X (compareOp op) r) (h : OpD K r g) (ha : FE K xm X a fa) (hb : FE K xm X b fb) (hm : behindInMarks op b = false := by first | exact nomark _ | rfl) :
    FE K xm X (.Compare a [op] [b] pos) (eOp g fa fb) := PE.to (pe_cmpR ho ha hb hm) fun _ _ _ k => k.op h
theorem fe_un {a : Expr} {op : UnaryOp} {pos : Pos} {r : V → Hp → VK → Prop} {g : D → Res D} {fa : VEnv → Res D} (ho : UnR X (unaryOp op) r) (h : UnD K r g) (ha : FE K xm X a fa) : FE K xm X (.UnaryOp op a pos) (eUn g fa) := PE.to (pe_un ho ha) fun _ _ _ k => k.un h
/-- two rules for one operator -/
theorem OpR.or {f : Value → Value → Sem Value} {r1 r2 : R2} (h1 : OpR X f r1) (h2 : OpR X f r2) : OpR X f (fun x y H Q => r1 x y H Q ∨ r2 x y H Q) := fun pins s σ H x y u v Q I rx ry h => h.elim (h1 pins s σ H x y u v Q I rx ry) (h2 pins s σ H x y u v Q I rx ry)
theorem CallR.or {f : Value} {r1 r2 : List V → Hp → VK → Prop} (h1 : CallR X f r1) (h2 : CallR X f r2) : CallR X f (fun x H Q => r1 x H Q ∨ r2 x H Q) := fun pins s σ H x u Q I rx h => h.elim (h1 pins s σ H x u Q I rx) (h2 pins s σ H x u Q I rx)
end
end Du

namespace Du
open PySem PySem.Spec PyProof.Rows L2
section
variable {X : Cx} (K : PySem.W.Frag)
def rAddA : R2 := fun x y H Q => (((rI0 fun i j => .int (i + j)) x y H Q ∨ (fun x y H Q => ∃ i j, x = .str i ∧ y = .str j ∧ i.length + j.length ≤ sizeLine ∧ Q (.str (i ++ j)) H) x y H Q) ∨ rCat x y H Q) ∨ rCatA K x y H Q
theorem op_addA (h : X.K = K := by rfl) : OpR X (binaryOp .Add) (rAddA K) := OpR.or (OpR.or (OpR.or op_add op_add_str) op_cat) (h ▸ op_catA)
end
def dAdd : D → D → Res D
  | .int a, .int b => .ok (.int (a + b))
  | .str a, .str b => if fit (a.length + b.length) = true then .ok (.str (a ++ b)) else .bad
  | .lst a, .lst b => if fit (a.length + b.length) = true then .ok (.lst (a ++ b)) else .bad
  | .tup a, .tup b => if fit (a.length + b.length) = true then .ok (.tup (a ++ b)) else .bad
  | _, _ => .bad
theorem DtAll.nilE {K : PySem.W.Frag} {F : Hp} {ds : List D} (h : DtAll K F [] ds) : ds = [] := by cases h; rfl
theorem Po.ite {α ω : Type} {R : Hp → ω → α → Prop} {K : PySem.W.Frag} {xm : XMo} {σ : St} {F H : Hp} {b : Bool} {r : Res α} {Q : ω → Hp → Prop} (k : Po R K xm σ F H (if b = true then r else .bad) Q) : b = true ∧ Po R K xm σ F H r Q := by
  cases b with
  | true => exact ⟨rfl, by rwa [if_pos rfl] at k⟩
  | false =>
    rw [if_neg Bool.false_ne_true] at k
    exact k.elim
theorem Po.iteP {α ω : Type} {R : Hp → ω → α → Prop} {K : PySem.W.Frag} {xm : XMo} {σ : St} {F H : Hp} {b : Prop} [Decidable b] {r : Res α} {Q : ω → Hp → Prop} (k : Po R K xm σ F H (if b then r else .bad) Q) : b ∧ Po R K xm σ F H r Q := by
  by_cases h : b
  · exact ⟨h, by rwa [if_pos h] at k⟩
  · rw [if_neg h] at k
    exact k.elim
section
variable {K : PySem.W.Frag}
theorem opd_add : OpD K (rAddA K) dAdd := by
  intro xm σ F H x y a b Q s hx hy k
  unfold dAdd at k
  split at k
  · rw [hx.intE, hy.intE]
    exact .inl (.inl (.inl ⟨_, _, rfl, rfl, k.done s (.int _)⟩))
  · obtain ⟨f, k⟩ := Po.ite k
    rw [hx.strE, hy.strE]
    exact .inl (.inl (.inr ⟨_, _, rfl, rfl, Nat.le_of_lt (fit_line f), k.done s (.str _)⟩))
  · obtain ⟨f, k⟩ := Po.ite k
    obtain ⟨p, xs, rfl, h1, h2⟩ := hx.lstE
    obtain ⟨q, ys, rfl, h3, h4⟩ := hy.lstE
    refine .inl (.inr ⟨_, _, _, _, rfl, rfl, s _ _ h1, s _ _ h3, by rw [h2.length, h4.length]; exact Nat.le_of_lt (fit_line f), fun r hr => ?_⟩)
    have w := sm_upd (o := .lst (xs ++ ys)) (s.free hr)
    exact k.new s hr (.lst upd_same ((h2.same w).app (h4.same w)))
  · obtain ⟨f, k⟩ := Po.ite k
    obtain ⟨p, xs, rfl, h1, h2⟩ := hx.tupE
    obtain ⟨q, ys, rfl, h3, h4⟩ := hy.tupE
    refine .inr ⟨_, _, _, _, rfl, rfl, (Below.of s).sqt h1, (Below.of s).sqt h3, by rw [h2.length, h4.length]; exact Nat.le_of_lt (fit_line f), fun e => ?_, fun _ e => ?_, fun _ _ r hr => ?_⟩
    · subst e
      rw [h2.nilE] at k
      exact k.done s hy
    · subst e
      rw [h4.nilE, List.append_nil] at k
      exact k.done s hx
    · have w := sm_upd (o := .tup (xs ++ ys)) (s.free hr)
      exact k.new s hr (.tup upd_same ((h2.same w).app (h4.same w)))
  · exact k.elim
/-! ### whole numbers -/
def dI (c : Int → Int → Prop) [∀ i j, Decidable (c i j)] (g : Int → Int → Int) : D → D → Res D
  | .int a, .int b => if c a b then .ok (.int (g a b)) else .bad
  | _, _ => .bad
theorem opd_i {c : Int → Int → Prop} [∀ i j, Decidable (c i j)] {C : Int → Int → Prop} {g : Int → Int → Int} (h : ∀ i j, c i j → C i j) : OpD K (rI C fun i j => .int (g i j)) (dI c g) := by
  intro xm σ F H x y a b Q s hx hy k
  unfold dI at k
  split at k
  · obtain ⟨f, k⟩ := Po.iteP k
    rw [hx.intE, hy.intE]
    exact ⟨_, _, rfl, rfl, h _ _ f, k.done s (.int _)⟩
  · exact k.elim
def dSub : D → D → Res D
  | .int a, .int b => .ok (.int (a - b))
  | _, _ => .bad
theorem opd_sub : OpD K (rI0 fun i j => .int (i - j)) dSub := by
  intro xm σ F H x y a b Q s hx hy k
  unfold dSub at k
  split at k
  · rw [hx.intE, hy.intE]
    exact ⟨_, _, rfl, rfl, k.done s (.int _)⟩
  · exact k.elim
instance : ∀ i j, Decidable (CMulW i j) := fun i j => inferInstanceAs (Decidable (_ < _))
instance : ∀ i j, Decidable (CDivW i j) := fun i j => inferInstanceAs (Decidable (_ ∧ _))
instance : ∀ i j, Decidable (CPow i j) := fun i j => inferInstanceAs (Decidable (_ ∧ _ ∧ _))
abbrev dDiv := dI CDivW fun i j => i / j
abbrev dMod := dI (fun _ j => 0 < j) fun i j => i % j
abbrev dPow := dI CPow fun i j => i ^ j.toNat
theorem opd_div : OpD K (rI CDivW fun i j => .int (i / j)) dDiv := opd_i fun _ _ h => h
theorem opd_mod : OpD K (rI (fun _ j => 0 < j) fun i j => .int (i % j)) dMod := opd_i fun _ _ h => h
theorem opd_pow : OpD K (rI CPow fun i j => .int (i ^ j.toNat)) dPow := opd_i fun _ _ h => h
end
/-! ### times: whole numbers, a list or a text by a number -/
section
variable {X : Cx}
def rMulA : R2 := fun x y H Q => (((rI CMulW fun i j => .int (i * j)) x y H Q ∨ (rI CMul fun i j => .int (i * j)) x y H Q) ∨ Dear.rRepS x y H Q) ∨ rRep x y H Q
theorem op_mulA : OpR X (binaryOp .Mult) rMulA := OpR.or (OpR.or (OpR.or op_mulW op_mul) Dear.op_repS) op_rep
end
/-- few figures together, or one factor small -/
def CMulA (i j : Int) : Prop := CMulW i j ∨ CMul i j
instance : ∀ i j, Decidable (CMul i j) := fun i j => inferInstanceAs (Decidable (_ ∨ _))
instance : ∀ i j, Decidable (CMulA i j) := fun i j => inferInstanceAs (Decidable (_ ∨ _))
def dMul : D → D → Res D
  | .int a, .int b => if CMulA a b then .ok (.int (a * b)) else .bad
  | .str a, .int b => if 0 ≤ b ∧ b ≤ 1000 ∧ a.length ≤ 1000 then .ok (.str (Dear.txt (Dear.repT a.cps.toList b.toNat))) else .bad
  | .lst a, .int b => if -1000000 ≤ b ∧ b ≤ 1000000 ∧ fit a.length = true ∧ fit (a.length * b.toNat) = true then .ok (.lst (List.replicate b.toNat a).flatten) else .bad
  | _, _ => .bad
theorem DtAll.rep {K : PySem.W.Frag} {F : Hp} {vs : List V} {ds : List D} (h : DtAll K F vs ds) : ∀ n : Nat, DtAll K F (List.replicate n vs).flatten (List.replicate n ds).flatten
  | 0 => .nil
  | n + 1 => by
    rw [List.replicate_succ, List.replicate_succ, List.flatten_cons, List.flatten_cons]
    exact h.app (DtAll.rep h n)
theorem opd_mul {K : PySem.W.Frag} : OpD K rMulA dMul := by
  intro xm σ F H x y a b Q s hx hy k
  unfold dMul at k
  split at k
  · obtain ⟨f, k⟩ := Po.iteP k
    rw [hx.intE, hy.intE]
    rcases f with f | f
    · exact .inl (.inl (.inl ⟨_, _, rfl, rfl, f, k.done s (.int _)⟩))
    · exact .inl (.inl (.inr ⟨_, _, rfl, rfl, f, k.done s (.int _)⟩))
  · rename_i a b
    obtain ⟨⟨f1, f2, f3⟩, k⟩ := Po.iteP k
    rw [hx.strE, hy.intE]
    have e : a = Dear.txt a.cps.toList := Dear.txt_of a
    exact .inl (.inr ⟨a.cps.toList, b, congrArg V.str e, rfl, f1, f2, by rw [Array.length_toList]; exact f3, k.done s (.str _)⟩)
  · rename_i a b
    obtain ⟨⟨f0, f1, f2, f3⟩, k⟩ := Po.iteP k
    obtain ⟨p, xs, rfl, h1, h2⟩ := hx.lstE
    rw [hy.intE]
    refine .inr ⟨_, _, _, rfl, rfl, s _ _ h1, by omega, by omega, by rw [h2.length]; exact Nat.le_of_lt (fit_line f3), fun r hr => ?_⟩
    exact k.new s hr (.lst upd_same ((h2.same (sm_upd (s.free hr))).rep _))
  · exact k.elim
/-- [..] * n -/
def eRep (fa : VEnv → Res (List D)) (fb : VEnv → Res D) : VEnv → Res D := fun ρ => (fa ρ).bind fun a => if fit a.length = true then (fb ρ).bind fun b => match b with
  | .int b => if -1000000 ≤ b ∧ b ≤ 1000000 ∧ fit (a.length * b.toNat) = true then .ok (.lst (List.replicate b.toNat a).flatten) else .bad
  | _ => .bad else .bad
end Du

namespace Du
open PySem PySem.Spec PyProof.Rows L2
/-! ### data as the library's -/
mutual
def py : D → PyData
  | .non => .none
  | .bl b => .bool b
  | .int i => .int i
  | .str z => .str z
  | .lst ds => .list (pyAll ds)
  | .tup ds => .tuple (pyAll ds)
  | _ => .none
def pyAll : List D → List PyData
  | [] => []
  | d :: ds => py d :: pyAll ds
end
mutual
/-- texts, numbers, truths, None, lists and tuples of such; the texts plain -/
def okD : D → Bool
  | .non => true
  | .bl _ => true
  | .int _ => true
  | .str z => z.cps.toList.all fun c => decide (c < 128)
  | .lst ds => okAll ds
  | .tup ds => okAll ds
  | _ => false
def okAll : List D → Bool
  | [] => true
  | d :: ds => okD d && okAll ds
end
mutual
def dep : D → Nat
  | .lst ds => depAll ds + 1
  | .tup ds => depAll ds + 1
  | _ => 0
def depAll : List D → Nat
  | [] => 0
  | d :: ds => max (dep d) (depAll ds)
end
/-- may be compared -/
def lay (d : D) : Bool := okD d && decide (dep d ≤ 60)
mutual
def pyEq : D → D → Bool
  | .non, .non => true
  | .bl a, .bl b => a == b
  | .bl a, .int j => (if a then 1 else 0) == j
  | .int i, .bl b => i == (if b then 1 else 0)
  | .int i, .int j => decide (i = j)
  | .str x, .str y => decide (x = y)
  | .lst xs, .lst ys => pyEqAll xs ys
  | .tup xs, .tup ys => pyEqAll xs ys
  | _, _ => false
def pyEqAll : List D → List D → Bool
  | [], [] => true
  | x :: xs, y :: ys => pyEq x y && pyEqAll xs ys
  | _, _ => false
end
mutual
theorem Dt.dp {K : PySem.W.Frag} {H : Hp} : ∀ {v : V} {d : D}, okD d = true → Dt K H v d → Dp K H v (py d)
  | _, _, _, .non => .non
  | _, _, _, .bl b => .bl b
  | _, _, _, .int i => .int i
  | _, _, _, .str z => .str z
  | _, _, n, .lst h a => .lst (SqL.of h) (DtAll.dp n a)
  | _, _, n, .tup h a => .tup (.inl (.inl h)) (DtAll.dp n a)
  | _, _, n, .tk h a _ => .tup (.inr h) (DtAll.dp n a)
  | _, _, n, .scr _ => by cases n
  | _, _, n, .dk _ _ _ => by cases n
  | _, _, n, .dt _ _ _ => by cases n
theorem DtAll.dp {K : PySem.W.Frag} {H : Hp} : ∀ {vs : List V} {ds : List D}, okAll ds = true → DtAll K H vs ds → DpAll K H vs (pyAll ds)
  | _, _, _, .nil => .nil
  | _, _, n, .cons a b => by
    simp only [okAll, Bool.and_eq_true] at n
    exact .cons (Dt.dp n.1 a) (DtAll.dp n.2 b)
end
mutual
theorem lay_py : ∀ {d : D}, okD d = true → PyData.canLay0 (py d) = true
  | .non, _ => rfl
  | .bl _, _ => rfl
  | .int _, _ => rfl
  | .str z, o => Dear.strOk_asc fun c hc => by
    have := List.all_eq_true.mp (show (z.cps.toList.all fun c => decide (c < 128)) = true from o) c hc
    simpa using this
  | .lst _, o => layAll_py o
  | .tup _, o => layAll_py o
  | .scr _, o => by cases o
  | .dct _ _, o => by cases o
  | .exc _ _, o => by cases o
theorem layAll_py : ∀ {ds : List D}, okAll ds = true → PyData.canLayAll0 (pyAll ds) = true
  | [], _ => rfl
  | d :: ds, o => by
    simp only [okAll, Bool.and_eq_true] at o
    show (PyData.canLay0 (py d) && PyData.canLayAll0 (pyAll ds)) = true
    rw [lay_py o.1, layAll_py o.2]
    rfl
end
mutual
theorem dep_py : ∀ d : D, PyData.depth (py d) = dep d
  | .non => rfl
  | .bl _ => rfl
  | .int _ => rfl
  | .str _ => rfl
  | .lst ds => congrArg (· + 1) (depAll_py ds)
  | .tup ds => congrArg (· + 1) (depAll_py ds)
  | .scr _ => rfl
  | .dct _ _ => rfl
  | .exc _ _ => rfl
theorem depAll_py : ∀ ds : List D, PyData.depthAll (pyAll ds) = depAll ds
  | [] => rfl
  | d :: ds => by
    show max (PyData.depth (py d)) (PyData.depthAll (pyAll ds)) = max (dep d) (depAll ds)
    rw [dep_py d, depAll_py ds]
end
mutual
theorem Dp.mono {K : PySem.W.Frag} {F H : Hp} (s : Same F H) : ∀ {v : V} {d : PyData}, Dp K F v d → Dp K H v d
  | _, _, .non => .non
  | _, _, .bl b => .bl b
  | _, _, .int i => .int i
  | _, _, .str z => .str z
  | _, _, .lst h a => .lst ((Below.of s).sql h) (DpAll.mono s a)
  | _, _, .tup h a => .tup ((Below.of s).sqt h) (DpAll.mono s a)
theorem DpAll.mono {K : PySem.W.Frag} {F H : Hp} (s : Same F H) : ∀ {v : List V} {d : List PyData}, DpAll K F v d → DpAll K H v d
  | _, _, .nil => .nil
  | _, _, .cons a b => .cons (Dp.mono s a) (DpAll.mono s b)
end
theorem lay_ok {d : D} (h : lay d = true) : okD d = true := (Bool.and_eq_true_iff.mp h).1
theorem lay_shaped {d : D} (h : lay d = true) : SeqAt.shaped (py d) = true := by
  unfold lay at h
  rw [Bool.and_eq_true, decide_eq_true_eq] at h
  show (PyData.canLay0 (py d) && decide (PyData.depth (py d) ≤ 64)) = true
  rw [lay_py h.1, dep_py, decide_eq_true (by omega)]
  rfl
mutual
theorem eqv_py : ∀ {a b : D}, okD a = true → okD b = true → PyData.eqv (py a) (py b) = pyEq a b := by
  intro a b ha hb
  cases a <;> cases b <;> first
    | rfl
    | (exfalso; revert ha; simp [okD]; done)
    | (exfalso; revert hb; simp [okD]; done)
    | (simp only [py, PyData.eqv, pyEq]; done)
    | (simp only [py, PyData.eqv, pyEq]; exact eqvAll_py ha hb)
    | skip
theorem eqvAll_py : ∀ {a b : List D}, okAll a = true → okAll b = true → PyData.eqvAll (pyAll a) (pyAll b) = pyEqAll a b
  | [], [], _, _ => rfl
  | [], _ :: _, _, _ => rfl
  | _ :: _, [], _, _ => rfl
  | x :: xs, y :: ys, ha, hb => by
    simp only [okAll, Bool.and_eq_true] at ha hb
    show (PyData.eqv (py x) (py y) && PyData.eqvAll (pyAll xs) (pyAll ys)) = (pyEq x y && pyEqAll xs ys)
    rw [eqv_py ha.1 hb.1, eqvAll_py ha.2 hb.2]
end
/-! ### == and != -/
/-- pairs of which == asks no more -/
def scalD : D → D → Bool
  | .non, .non => true | .non, .int _ => true | .int _, .non => true | .non, .bl _ => true | .bl _, .non => true | .non, .str _ => true | .str _, .non => true
  | .int _, .int _ => true | .bl _, .bl _ => true | .str _, .str _ => true
  | .int _, .str _ => true | .str _, .int _ => true | .bl _, .str _ => true | .str _, .bl _ => true
  | _, _ => false
theorem scal_of {K : PySem.W.Frag} {F : Hp} {x y : V} {a b : D} (h : scalD a b = true) (hx : Dt K F x a) (hy : Dt K F y b) : scal x y = true ∧ decide (x = y) = pyEq a b := by
  cases hx <;> cases hy <;> first
    | (exfalso; revert h; simp [scalD]; done)
    | (refine ⟨rfl, ?_⟩; simp [pyEq]; done)
    | skip
  · refine ⟨rfl, ?_⟩
    simp only [pyEq, V.bl.injEq]
    rename_i a b
    cases a <;> cases b <;> rfl
def dEq (a b : D) : Res D := if (scalD a b || (lay a && lay b)) = true then .ok (.bl (pyEq a b)) else .bad
def dNe (a b : D) : Res D := if (scalD a b || (lay a && lay b)) = true then .ok (.bl (!pyEq a b)) else .bad
section
variable {K : PySem.W.Frag} {X : Cx}
def rEqA (K : PySem.W.Frag) : R2 := fun x y H Q => rEq x y H Q ∨ rEqD K x y H Q
def rNeA (K : PySem.W.Frag) : R2 := fun x y H Q => rNe x y H Q ∨ rNeD K x y H Q
theorem op_eqA (hu : X.A.units + 64 < cLine) (h : X.K = K := by rfl) : OpR X (compareOp .Eq) (rEqA K) := OpR.or op_eq (h ▸ op_eqD hu)
theorem op_neA (hu : X.A.units + 64 < cLine) (h : X.K = K := by rfl) : OpR X (compareOp .NotEq) (rNeA K) := OpR.or op_ne (h ▸ op_neD hu)
theorem opd_eq : OpD K (rEqA K) dEq := by
  intro xm σ F H x y a b Q s hx hy k
  obtain ⟨f, k⟩ := Po.ite k
  rcases Bool.or_eq_true_iff.mp f with f | f
  · obtain ⟨h1, h2⟩ := scal_of f hx hy
    exact .inl ⟨h1, by rw [h2]; exact k.done s (.bl _)⟩
  · rw [Bool.and_eq_true] at f
    refine .inr ⟨_, _, Dp.mono s (Dt.dp (lay_ok f.1) hx), Dp.mono s (Dt.dp (lay_ok f.2) hy), lay_shaped f.1, lay_shaped f.2, ?_⟩
    rw [eqv_py (lay_ok f.1) (lay_ok f.2)]
    exact k.done s (.bl _)
theorem opd_ne : OpD K (rNeA K) dNe := by
  intro xm σ F H x y a b Q s hx hy k
  obtain ⟨f, k⟩ := Po.ite k
  rcases Bool.or_eq_true_iff.mp f with f | f
  · obtain ⟨h1, h2⟩ := scal_of f hx hy
    exact .inl ⟨h1, by rw [h2]; exact k.done s (.bl _)⟩
  · rw [Bool.and_eq_true] at f
    refine .inr ⟨_, _, Dp.mono s (Dt.dp (lay_ok f.1) hx), Dp.mono s (Dt.dp (lay_ok f.2) hy), lay_shaped f.1, lay_shaped f.2, ?_⟩
    rw [eqv_py (lay_ok f.1) (lay_ok f.2)]
    exact k.done s (.bl _)
/-! ### <, <=, >, >= of whole numbers -/
def dCmp (p : Int → Int → Bool) : D → D → Res D
  | .int a, .int b => .ok (.bl (p a b))
  | _, _ => .bad
theorem opd_cmp {p : Int → Int → Bool} : OpD K (rI0 fun i j => .bl (p i j)) (dCmp p) := by
  intro xm σ F H x y a b Q s hx hy k
  unfold dCmp at k
  split at k
  · rw [hx.intE, hy.intE]
    exact ⟨_, _, rfl, rfl, k.done s (.bl _)⟩
  · exact k.elim
abbrev dLt := dCmp fun i j => decide (i < j)
abbrev dLe := dCmp fun i j => decide (i ≤ j)
abbrev dGt := dCmp fun i j => decide (j < i)
abbrev dGe := dCmp fun i j => decide (j ≤ i)
theorem opd_lt : OpD K (rI0 fun i j => .bl (decide (i < j))) dLt := opd_cmp
theorem opd_le : OpD K (rI0 fun i j => .bl (decide (i ≤ j))) dLe := opd_cmp
theorem opd_gt : OpD K (rI0 fun i j => .bl (decide (j < i))) dGt := opd_cmp
theorem opd_ge : OpD K (rI0 fun i j => .bl (decide (j ≤ i))) dGe := opd_cmp
/-! ### is None -/
def isNon : D → Bool
  | .non => true
  | _ => false
theorem isNon_of {F : Hp} {v : V} {d : D} (h : Dt K F v d) : decide (v = .non) = isNon d := by
  cases h <;> first
    | rfl
    | (refine decide_eq_false ?_; intro e; cases e)
def dIsN (a b : D) : Res D := if isNon b = true then .ok (.bl (isNon a)) else .bad
def dNotN (a b : D) : Res D := if isNon b = true then .ok (.bl (!isNon a)) else .bad
theorem isNonE {F : Hp} {v : V} {d : D} (h : Dt K F v d) (e : isNon d = true) : v = .non := by
  have := isNon_of h
  rw [e] at this
  exact of_decide_eq_true this
theorem opd_isN : OpD K (fun x y H Q => y = .non ∧ Q (.bl (decide (x = .non))) H) dIsN := by
  intro xm σ F H x y a b Q s hx hy k
  obtain ⟨f, k⟩ := Po.ite k
  exact ⟨isNonE hy f, by rw [isNon_of hx]; exact k.done s (.bl _)⟩
theorem opd_notN : OpD K (fun x y H Q => y = .non ∧ Q (.bl (!decide (x = .non))) H) dNotN := by
  intro xm σ F H x y a b Q s hx hy k
  obtain ⟨f, k⟩ := Po.ite k
  exact ⟨isNonE hy f, by rw [isNon_of hx]; exact k.done s (.bl _)⟩
end
end Du

namespace Du
open PySem PySem.Spec PyProof.Rows L2
section
variable {K : PySem.W.Frag} {X : Cx}
/-! ### dicts with flat keys, as data -/
noncomputable def dGet (kvs : List (D × D)) (k : D) : Option D := (kvs.find? fun p => decide (p.1 = k)).map (·.2)
def dKeyOk : D → Bool
  | .int _ => true
  | .str _ => true
  | _ => false
theorem keyE {F : Hp} {v : V} {d : D} (h : Dt K F v d) (o : dKeyOk d = true) : ∃ k : Key, v = kV k ∧ d = keyD k := by
  cases d with
  | int i => exact ⟨.inl i, h.intE, rfl⟩
  | str z => exact ⟨.inr z, h.strE, rfl⟩
  | _ => cases o
theorem dGet_of {F : Hp} : ∀ {kvs : List (Key × V)} {ds : List (D × D)} {k : Key}, DtAll K F (kvs.map (·.2)) (ds.map (·.2)) → ds.map (·.1) = kvs.map (fun p => keyD p.1) →
    (∀ d, dGet ds (keyD k) = some d → ∃ v, valV kvs k = some v ∧ Dt K F v d) ∧ (dGet ds (keyD k)).isSome = (valV kvs k).isSome
  | [], [], _, _, _ => ⟨(fun _ e => nomatch e), rfl⟩
  | [], _ :: _, _, _, e => by simp at e
  | _ :: _, [], _, _, e => by simp at e
  | p :: kvs, q :: ds, k, h, e => by
    simp only [List.map_cons] at h e
    cases h with
    | cons h1 h2 =>
      injection e with e1 e2
      obtain ⟨i1, i2⟩ := dGet_of (k := k) h2 e2
      by_cases c : p.1 = k
      · have c' : q.1 = keyD k := by rw [e1, c]
        rw [valV_pos c]
        have g : dGet (q :: ds) (keyD k) = some q.2 := by simp [dGet, List.find?_cons, c']
        rw [g]
        exact ⟨fun d e => by cases e; exact ⟨_, rfl, h1⟩, rfl⟩
      · have c' : ¬ q.1 = keyD k := fun z => c (keyD_inj (by rw [← e1, z]))
        rw [valV_neg c]
        have g : dGet (q :: ds) (keyD k) = dGet ds (keyD k) := by simp [dGet, List.find?_cons, c']
        rw [g]
        exact ⟨i1, i2⟩
/-! ### in, not in -/
def rInDk (neg : Bool) : R2 := fun y x H Q => ∃ a o, x = .ref a ∧ DGet H a y o ∧ Q (.bl (if neg then !o.isSome else o.isSome)) H
theorem op_inDk (hu : X.A.units + 1 < cLine) : OpR X (compareOp .In) (rInDk false) := by
  intro pins s σ H y x u v Q I ry rx h
  obtain ⟨a, o, rfl, g, q⟩ := h
  cases (show v = Value.ref a from rx)
  exact d_in hu I g ry fun s' I' => ⟨.bl o.isSome, H, I', rfl, q⟩
theorem op_notInDk (hu : X.A.units + 1 < cLine) : OpR X (compareOp .NotIn) (rInDk true) := by
  intro pins s σ H y x u v Q I ry rx h
  obtain ⟨a, o, rfl, g, q⟩ := h
  cases (show v = Value.ref a from rx)
  exact d_notIn hu I g ry fun s' I' => ⟨.bl (!o.isSome), H, I', rfl, q⟩
def rInA (K : PySem.W.Frag) : R2 := fun x y H Q => (((fun x y H Q => ∃ (c : Nat) (z : Str), x = .str ⟨#[c]⟩ ∧ y = .str z ∧ Q (.bl (decide (c ∈ z.cps.toList))) H) x y H Q ∨ rIn K false x y H Q) ∨ rInD K x y H Q) ∨ rInDk false x y H Q
def rNotInA (K : PySem.W.Frag) : R2 := fun x y H Q => (((fun x y H Q => ∃ (c : Nat) (z : Str), x = .str ⟨#[c]⟩ ∧ y = .str z ∧ Q (.bl (!decide (c ∈ z.cps.toList))) H) x y H Q ∨ rIn K true x y H Q) ∨ rNotInD K x y H Q) ∨ rInDk true x y H Q
theorem op_inA (hu : X.A.units + 64 + 1 < cLine) (h : X.K = K := by rfl) : OpR X (compareOp .In) (rInA K) := OpR.or (OpR.or (OpR.or op_in_sign (h ▸ op_in_seq)) (h ▸ op_inD hu)) (op_inDk (by omega))
theorem op_notInA (hu : X.A.units + 64 + 1 < cLine) (h : X.K = K := by rfl) : OpR X (compareOp .NotIn) (rNotInA K) := OpR.or (OpR.or (OpR.or op_notIn_sign (h ▸ op_notIn_seq)) (h ▸ op_notInD hu)) (op_notInDk (by omega))
def flatD : D → Bool
  | .non => true
  | .bl _ => true
  | .int _ => true
  | .str _ => true
  | _ => false
theorem flat_of {F : Hp} {v : V} {d : D} (h : Dt K F v d) (f : flatD d = true) : flatV v = true := by
  cases h <;> first | rfl | cases f
theorem flats_of {F : Hp} : ∀ {vs : List V} {ds : List D}, DtAll K F vs ds → ds.all flatD = true → vs.all flatV = true
  | _, _, .nil, _ => rfl
  | _, _, .cons a b, f => by
    rw [List.all_cons, Bool.and_eq_true] at f
    rw [List.all_cons, flat_of a f.1, flats_of b f.2]
    rfl
theorem eqV_of {F : Hp} {x y : V} {a b : D} (hx : Dt K F x a) (hy : Dt K F y b) (fa : flatD a = true) (fb : flatD b = true) : eqV x y = pyEq a b := by
  cases hx <;> cases hy <;> first
    | rfl
    | (cases fa; done)
    | (cases fb; done)
    | skip
/-- one of a list equals d -/
def inL (d : D) (ds : List D) : Bool := ds.any fun e => pyEq e d
theorem inV_of {F : Hp} {x : V} {d : D} (hx : Dt K F x d) (fx : flatD d = true) : ∀ {vs : List V} {ds : List D}, DtAll K F vs ds → ds.all flatD = true → inV x vs = inL d ds
  | _, _, .nil, _ => rfl
  | _, _, .cons a b, f => by
    rw [List.all_cons, Bool.and_eq_true] at f
    have ih := inV_of hx fx b f.2
    unfold inV inL at ih ⊢
    rw [List.any_cons, List.any_cons, eqV_of a hx f.1 fx, ih]
theorem inD_of {d : D} (o : okD d = true) : ∀ {ds : List D}, okAll ds = true → (pyAll ds).any (fun e => PyData.eqv e (py d)) = inL d ds
  | [], _ => rfl
  | e :: ds, h => by
    simp only [okAll, Bool.and_eq_true] at h
    have ih := inD_of o h.2
    unfold inL at ih ⊢
    show ((PyData.eqv (py e) (py d)) || (pyAll ds).any fun e => PyData.eqv e (py d)) = _
    rw [List.any_cons, eqv_py h.1 o, ih]
noncomputable def dIn (neg : Bool) : D → D → Res D
  | .str a, .str b => match a.cps.toList with
    | [c] => .ok (.bl (neg ^^ decide (c ∈ b.cps.toList)))
    | _ => .bad
  | d, .lst ds => if (flatD d && ds.all flatD) || (lay d && lay (.lst ds)) then .ok (.bl (neg ^^ inL d ds)) else .bad
  | d, .tup ds => if (flatD d && ds.all flatD) then .ok (.bl (neg ^^ inL d ds)) else .bad
  | d, .dct false kvs => if dKeyOk d then .ok (.bl (neg ^^ (dGet kvs d).isSome)) else .bad
  | _, _ => .bad
theorem one_sign {a : Str} {c : Nat} (h : a.cps.toList = [c]) : a = ⟨#[c]⟩ := by
  obtain ⟨⟨l⟩⟩ := a
  simp only at h
  subst h
  rfl
theorem opd_in (neg : Bool) : OpD K (if neg then rNotInA K else rInA K) (dIn neg) := by
  intro xm σ F H x y a b Q s hx hy k
  unfold dIn at k
  split at k
  · split at k
    · rename_i c e
      rw [hx.strE, hy.strE, one_sign e]
      have q := k.done s (.bl _)
      cases neg
      · exact .inl (.inl (.inl ⟨c, _, rfl, rfl, by simpa using q⟩))
      · exact .inl (.inl (.inl ⟨c, _, rfl, rfl, by simpa using q⟩))
    · exact k.elim
  · obtain ⟨f, k⟩ := Po.ite k
    obtain ⟨p, xs, rfl, h1, h2⟩ := hy.lstE
    have q := k.done s (.bl _)
    rcases Bool.or_eq_true_iff.mp f with f | f
    · rw [Bool.and_eq_true] at f
      rw [← inV_of hx f.1 h2 f.2] at q
      cases neg
      · exact .inl (.inl (.inr ⟨p, xs, rfl, .inl (SqL.of (s _ _ h1)), flat_of hx f.1, flats_of h2 f.2, by simpa using q⟩))
      · exact .inl (.inl (.inr ⟨p, xs, rfl, .inl (SqL.of (s _ _ h1)), flat_of hx f.1, flats_of h2 f.2, by simpa using q⟩))
    · rw [Bool.and_eq_true] at f
      have ok2 := lay_ok f.2
      rw [← inD_of (lay_ok f.1) (show okAll _ = true from ok2)] at q
      have d1 := Dp.mono s (Dt.dp (lay_ok f.1) hx)
      have d2 := Dp.mono s (Dt.dp ok2 hy)
      cases neg
      · exact .inl (.inr ⟨_, _, d1, d2, lay_shaped f.1, lay_shaped f.2, by simpa using q⟩)
      · exact .inl (.inr ⟨_, _, d1, d2, lay_shaped f.1, lay_shaped f.2, by simpa using q⟩)
  · obtain ⟨f, k⟩ := Po.ite k
    obtain ⟨p, xs, rfl, h1, h2⟩ := hy.tupE
    have q := k.done s (.bl _)
    rw [Bool.and_eq_true] at f
    rw [← inV_of hx f.1 h2 f.2] at q
    cases neg
    · exact .inl (.inl (.inr ⟨p, xs, rfl, .inr ((Below.of s).sqt h1), flat_of hx f.1, flats_of h2 f.2, by simpa using q⟩))
    · exact .inl (.inl (.inr ⟨p, xs, rfl, .inr ((Below.of s).sqt h1), flat_of hx f.1, flats_of h2 f.2, by simpa using q⟩))
  · obtain ⟨f, k⟩ := Po.ite k
    obtain ⟨key, rfl, rfl⟩ := keyE hx f
    have q := k.done s (.bl _)
    cases hy with
    | dk h1 h2 h3 =>
      rw [(dGet_of h2 h3).2] at q
      have g : DGet H _ (kV key) _ := .inl ⟨_, key, (Below.of s).rd h1, rfl, rfl⟩
      cases neg
      · exact .inr ⟨_, _, rfl, g, by simpa using q⟩
      · exact .inr ⟨_, _, rfl, g, by simpa using q⟩
  · exact k.elim
theorem opd_inF : OpD K (rInA K) (dIn false) := opd_in false
theorem opd_inT : OpD K (rNotInA K) (dIn true) := opd_in true
/-! ### subscripts -/
def rIxDk : R2 := fun x y H Q => ∃ a v, x = .ref a ∧ DGet H a y (some v) ∧ Q v H
theorem ix_dk (hu : X.A.units + 1 < cLine) : IxR X rIxDk := by
  intro value slice pins s σ H x y v u Q I rx ry h hs
  obtain ⟨a, w, rfl, g, q⟩ := h
  cases (show v = Value.ref a from rx)
  have hT := dict_typeIs I g
  unfold subscriptTail
  refine wpAny_bind ?_
  rw [getitemInPython_of_ne hT.not_modules]
  refine wpAny_bind (wpAny_specialOf hT PySem.F.slot_dict_getitem.lookup ?_)
  have fin : wpAny (model X.prog X.w) X.A (subscripted slice false (.ref a) u) (fun r s₃ => wpAny (model X.prog X.w) X.A (letTemporaryGo value (.ref a) r >>= fun _ => pure r) (EP X pins σ Q) X.xe s₃) X.xe s := by
    rw [hs]
    exact wpAny_operating (wpAny_mono (d_getItem hu I g ry fun w' s' I' r' => ⟨w, H, I', r', q⟩) (fun r s₃ h₃ => wpAny_bind (wpAny_letTemporaryGo (wpAny_pure h₃))) fun _ _ x => x)
  first
    | exact wpAny_pure (wpAny_bind fin)
    | exact wpAny_bind (wpAny_pure (wpAny_bind fin))
    | exact wpAny_bind fin
def rIxA (K : PySem.W.Frag) : R2 := fun x y H Q => ((rIxL K x y H Q ∨ rIxT K x y H Q) ∨ rIxS x y H Q) ∨ rIxDk x y H Q
theorem ix_A (hu : X.A.units + 1 < cLine) (h : X.K = K := by rfl) : IxR X (rIxA K) := IxR.or (IxR.or (IxR.or (h ▸ ix_list) (h ▸ ix_tup)) ix_str) (ix_dk hu)
noncomputable def dIx : D → D → Res D
  | .lst ds, .int i => match atI ds i with
    | some d => .ok d
    | none => .bad
  | .tup ds, .int i => match atI ds i with
    | some d => .ok d
    | none => .bad
  | .scr ns, .int i => match atI ns i with
    | some n => .ok (.int n)
    | none => .bad
  | .str z, .int i => if fit z.length = true then match atI z.cps.toList i with
    | some c => .ok (.str ⟨#[c]⟩)
    | none => .bad else .bad
  | .dct false kvs, k => if dKeyOk k = true then match dGet kvs k with
    | some d => .ok d
    | none => .bad else .bad
  | _, _ => .bad
theorem DtAll.atI {F : Hp} {vs : List V} {ds : List D} {i : Int} {d : D} (h : DtAll K F vs ds) (e : atI ds i = some d) : ∃ v, L2.atI vs i = some v ∧ Dt K F v d := by
  unfold L2.atI at e ⊢
  rw [h.length]
  obtain ⟨j, e1, e2⟩ := Option.bind_eq_some_iff.mp e
  obtain ⟨v, e3, e4⟩ := DtAll.at h e2
  exact ⟨v, by rw [e1]; exact e3, e4⟩
theorem atI_map {α β : Type} {f : α → β} {xs : List α} {i : Int} {a : α} (e : atI xs i = some a) : atI (xs.map f) i = some (f a) := by
  unfold L2.atI at e ⊢
  rw [List.length_map]
  obtain ⟨j, e1, e2⟩ := Option.bind_eq_some_iff.mp e
  rw [e1]
  show (xs.map f)[j]? = _
  rw [List.getElem?_map, e2]
  rfl
theorem opd_ix : OpD K (rIxA K) dIx := by
  intro xm σ F H x y a b Q s hx hy k
  unfold dIx at k
  split at k
  · split at k
    · rename_i d e
      obtain ⟨p, xs, rfl, h1, h2⟩ := hx.lstE
      obtain ⟨v, e1, e2⟩ := h2.atI e
      rw [hy.intE]
      exact .inl (.inl (.inl ⟨_, _, _, _, rfl, rfl, SqL.of (s _ _ h1), e1, k.done s e2⟩))
    · exact k.elim
  · split at k
    · rename_i d e
      obtain ⟨p, xs, rfl, h1, h2⟩ := hx.tupE
      obtain ⟨v, e1, e2⟩ := h2.atI e
      rw [hy.intE]
      exact .inl (.inl (.inr ⟨_, _, _, _, rfl, rfl, (Below.of s).sqt h1, e1, k.done s e2⟩))
    · exact k.elim
  · split at k
    · rename_i d e
      rw [hy.intE]
      cases hx with
      | scr h1 => exact .inl (.inl (.inl ⟨_, _, _, _, rfl, rfl, (Below.of s).sql h1, atI_map e, k.done s (.int _)⟩))
    · exact k.elim
  · obtain ⟨f, k⟩ := Po.ite k
    split at k
    · rename_i c e
      rw [hx.strE, hy.intE]
      exact .inl (.inr ⟨_, _, _, rfl, rfl, Nat.le_of_lt (fit_line f), e, k.done s (.str _)⟩)
    · exact k.elim
  · obtain ⟨f, k1⟩ := Po.ite k
    clear k
    split at k1
    · rename_i d e
      obtain ⟨key, rfl, rfl⟩ := keyE hy f
      cases hx with
      | dk h1 h2 h3 =>
        obtain ⟨v, e1, e2⟩ := (dGet_of h2 h3).1 _ e
        exact .inr ⟨_, v, rfl, .inl ⟨_, key, (Below.of s).rd h1, rfl, e1.symm⟩, k1.done s e2⟩
    · exact k1.elim
  · exact k.elim
theorem fe_ix {xm : XMo} {a b : Expr} {pos : Pos} {r : R2} {g : D → D → Res D} {fa fb : VEnv → Res D} (hr : IxR X r) (h : OpD K r g) (ha : FE K xm X a fa) (hb : FE K xm X b fb) (hs : PlainIx b := by intro _ _; rfl) : FE K xm X (.Subscript a b pos) (eOp g fa fb) :=
  PE.to (pe_ix hr ha hb hs) fun _ _ _ k => k.op h
/-! ### slices -/
def dPart : D → Res (Option Int)
  | .int i => .ok (some i)
  | _ => .bad
def pNo : VEnv → Res (Option Int) := fun _ => .ok none
def pYes (f : VEnv → Res D) : VEnv → Res (Option Int) := fun ρ => (f ρ).bind dPart
def cutD {α : Type} (xs : List α) (lo hi : Option Int) : List α := (xs.drop (HT.sIx xs.length 0 lo)).take (HT.sIx xs.length xs.length hi - HT.sIx xs.length 0 lo)
def dSl : D → Option Int → Option Int → Res D
  | .lst ds, lo, hi => .ok (.lst (cutD ds lo hi))
  | .tup ds, lo, hi => .ok (.tup (cutD ds lo hi))
  | .scr ns, lo, hi => .ok (.lst ((cutD ns lo hi).map D.int))
  | .str z, lo, hi => if fit z.length = true then .ok (.str (cutS z lo hi)) else .bad
  | _, _, _ => .bad
def eSl (fe : VEnv → Res D) (fl fh : VEnv → Res (Option Int)) : VEnv → Res D := fun ρ => (fe ρ).bind fun a => (fl ρ).bind fun l => (fh ρ).bind fun h => dSl a l h
abbrev RO : Hp → Option Int → Option Int → Prop := fun _ b c => b = c
def oF (K : PySem.W.Frag) (xm : XMo) (f : VEnv → Res (Option Int)) : TO := fun σ H Q => ∃ F ρ, Same F H ∧ Vw K F σ ρ ∧ Po RO K xm σ F H (f ρ) Q
abbrev FO (K : PySem.W.Frag) (xm : XMo) (X : Cx) (e : Option Expr) (f : VEnv → Res (Option Int)) : Prop := PO X e (oF K xm f)
theorem PO.to {e : Option Expr} {t t' : TO} (h : PO X e t) (m : ∀ σ H Q, t' σ H Q → t σ H Q) : PO X e t' := ⟨fun pins s σ H Q I q => h.run pins s σ H Q I (m _ _ _ q)⟩
theorem fo_no {xm : XMo} : FO K xm X none pNo := PO.to po_none fun σ H Q ⟨F, ρ, sF, vw, k⟩ => k.done sF rfl
theorem fo_yes {xm : XMo} {e : Expr} {f : VEnv → Res D} (h : FE K xm X e f) : FO K xm X (some e) (pYes f) := PO.to (po_some h) fun σ H Q ⟨F, ρ, sF, vw, k⟩ => ⟨F, ρ, sF, vw, Po.seq k fun a x F1 H1 g1 d1 k1 => by
  unfold dPart at k1
  split at k1
  · rw [d1.intE]
    exact ⟨_, rfl, k1.done g1.fh rfl⟩
  · exact k1.elim⟩
def rSlAll (K : PySem.W.Frag) : V → Option Int → Option Int → Hp → VK → Prop := fun x lo hi H Q => (rSlL K x lo hi H Q ∨ rSlA K x lo hi H Q) ∨ rSlS x lo hi H Q
theorem sl_all (h : X.K = K := by rfl) : SlR X (rSlAll K) := SlR.or (SlR.or (h ▸ sl_list) (h ▸ sl_tupA)) sl_str
theorem DtAll.cut {F : Hp} {vs : List V} {ds : List D} (h : DtAll K F vs ds) (lo hi : Option Int) : DtAll K F (cutV vs lo hi) (cutD ds lo hi) := by
  unfold cutV cutD
  rw [h.length]
  exact (h.drop _).take _
theorem cut_map {α β : Type} (f : α → β) (xs : List α) (lo hi : Option Int) : cutD (xs.map f) lo hi = (cutD xs lo hi).map f := by
  unfold cutD
  rw [List.length_map, List.map_take, List.map_drop]
theorem cutV_map {α : Type} (f : α → V) (xs : List α) (lo hi : Option Int) : cutV (xs.map f) lo hi = (cutD xs lo hi).map f := cut_map f xs lo hi
theorem cut_whole {α : Type} {xs : List α} {lo hi : Option Int} (h : HT.sIx xs.length 0 lo = 0 ∧ HT.sIx xs.length xs.length hi = xs.length) : cutD xs lo hi = xs := by
  unfold cutD
  rw [h.1, h.2]
  simp
theorem fe_sl {xm : XMo} {e : Expr} {lo hi : Option Expr} {p2 pos : Pos} {fe : VEnv → Res D} {fl fh : VEnv → Res (Option Int)} (he : FE K xm X e fe) (hl : FO K xm X lo fl) (hh : FO K xm X hi fh) (hk : X.K = K := by rfl) :
    FE K xm X (.Subscript e (.Slice lo hi none p2) pos) (eSl fe fl fh) := PE.to (pe_slice (sl_all hk) he hl hh) fun σ H Q ⟨F, ρ, sF, vw, k⟩ => ⟨F, ρ, sF, vw, Po.seq k fun a x F1 H1 g1 d1 k1 =>
  ⟨F1, ρ, g1.fh, vw.same g1.ff, Po.seq k1 fun l l' F2 H2 g2 d2 k2 => ⟨F2, ρ, g2.fh, vw.same (g1.ff.trans g2.ff), Po.seq k2 fun h h' F3 H3 g3 d3 k3 => by
    subst d2 d3
    have s := g3.fh
    have d := (d1.same g2.ff).same g3.ff
    unfold dSl at k3
    split at k3
    · obtain ⟨p, xs, rfl, h1, h2⟩ := d.lstE
      exact .inl (.inl ⟨p, xs, rfl, SqL.of (s _ _ h1), fun q hq => k3.new s hq (.lst upd_same ((h2.cut l' h').same (sm_upd (s.free hq))))⟩)
    · obtain ⟨p, xs, rfl, h1, h2⟩ := d.tupE
      refine .inl (.inr ⟨p, xs, rfl, (Below.of s).sqt h1, fun w => ?_, fun _ q hq => k3.new s hq (.tup upd_same ((h2.cut l' h').same (sm_upd (s.free hq))))⟩)
      rw [h2.length] at w
      rw [cut_whole w] at k3
      exact k3.done s d
    · cases d with
      | scr h1 => exact .inl (.inl ⟨_, _, rfl, (Below.of s).sql h1, fun q hq => k3.new s hq (.lst upd_same (by rw [cutV_map]; exact Dt.ints _))⟩)
    · obtain ⟨f, k3⟩ := Po.ite k3
      rw [d.strE]
      exact .inr ⟨_, rfl, Nat.le_of_lt (fit_line f), k3.done s (.str _)⟩
    · exact k3.elim⟩⟩⟩
end
end Du

namespace Du
open PySem PySem.Spec PyProof.Rows L2
section
variable {K : PySem.W.Frag} {xm : XMo} {X : Cx}
/-! ### arguments, displays -/
def aNil : VEnv → Res (List D) := fun _ => .ok []
def aCons (f : VEnv → Res D) (g : VEnv → Res (List D)) : VEnv → Res (List D) := fun ρ => (f ρ).bind fun a => (g ρ).bind fun as => .ok (a :: as)
theorem fa_nil : FA K xm X [] aNil := PA.to pa_nil fun σ H Q ⟨F, ρ, sF, vw, k⟩ => k.done sF .nil
theorem fa_cons {e : Expr} {es : List Expr} {f : VEnv → Res D} {g : VEnv → Res (List D)} (h : FE K xm X e f) (r : FA K xm X es g) (hs : starEach (e :: es) X.env = (false, eval e X.env) :: starEach es X.env := by rfl) : FA K xm X (e :: es) (aCons f g) :=
  PA.to (pa_cons h r hs) fun σ H Q ⟨F, ρ, sF, vw, k⟩ => ⟨F, ρ, sF, vw, Po.seq k fun a x F1 H1 g1 d1 k1 => ⟨F1, ρ, g1.fh, vw.same g1.ff, Po.seq k1 fun b y F2 H2 g2 d2 k2 =>
    k2.done g2.fh (.cons (d1.same g2.ff) d2)⟩⟩
def eTup (f : VEnv → Res (List D)) : VEnv → Res D := fun ρ => (f ρ).bind fun as => if fit as.length = true then .ok (.tup as) else .bad
def eLst (f : VEnv → Res (List D)) : VEnv → Res D := fun ρ => (f ρ).bind fun as => if fit as.length = true then .ok (.lst as) else .bad
theorem fe_tup {es : List Expr} {kk : Nat} {pos : Pos} {f : VEnv → Res (List D)} (h : FA K xm X es f) : FE K xm X (.Tuple es kk pos) (eTup f) :=
  PE.to (pe_tup h) fun σ H Q ⟨F, ρ, sF, vw, k⟩ => ⟨F, ρ, sF, vw, Po.seq k fun a xs F1 H1 g1 d1 k1 => by
    obtain ⟨f, k1⟩ := Po.ite k1
    exact ⟨by rw [d1.length]; exact Nat.le_of_lt (fit_line f), fun p hp => k1.new g1.fh hp (.tup upd_same (d1.same (sm_upd (g1.fh.free hp))))⟩⟩
theorem fe_lst {es : List Expr} {pos : Pos} {f : VEnv → Res (List D)} (h : FA K xm X es f) : FE K xm X (.List es pos) (eLst f) :=
  PE.to (pe_lst h) fun σ H Q ⟨F, ρ, sF, vw, k⟩ => ⟨F, ρ, sF, vw, Po.seq k fun a xs F1 H1 g1 d1 k1 => by
    obtain ⟨f, k1⟩ := Po.ite k1
    exact ⟨by rw [d1.length]; exact Nat.le_of_lt (fit_line f), fun p hp => k1.new g1.fh hp (.lst upd_same (d1.same (sm_upd (g1.fh.free hp))))⟩⟩
def eDct0 : VEnv → Res D := fun _ => .ok (.dct false [])
/-! ### truth, tests -/
def dTru : D → Res Bool
  | .non => .ok false
  | .bl b => .ok b
  | .int i => .ok (i != 0)
  | .str z => if fit z.length = true then .ok ((z.length : Int) != 0) else .bad
  | .lst ds => .ok (!ds.isEmpty)
  | .tup ds => .ok (!ds.isEmpty)
  | _ => .bad
theorem isEmpty_all {F : Hp} {vs : List V} {ds : List D} (h : DtAll K F vs ds) : vs.isEmpty = ds.isEmpty := by cases h <;> rfl
theorem tru_of {F H : Hp} {v : V} {d : D} {b : Bool} (s : Same F H) (h : Dt K F v d) (e : dTru d = .ok b) : TruV K v H b := by
  unfold dTru at e
  split at e
  · cases e; rw [h.nonE]; exact rfl
  · cases e; rw [h.blE]; exact rfl
  · cases e; rw [h.intE]; exact rfl
  · rename_i z
    by_cases f : fit z.length = true
    · rw [if_pos f] at e; cases e; rw [h.strE]; exact ⟨Nat.le_of_lt (fit_line f), rfl⟩
    · rw [if_neg f] at e; cases e
  · cases e
    obtain ⟨p, xs, rfl, h1, h2⟩ := h.lstE
    exact .inl ⟨xs, SqL.of (s _ _ h1), by rw [isEmpty_all h2]⟩
  · cases e
    obtain ⟨p, xs, rfl, h1, h2⟩ := h.tupE
    exact .inr (.inl ⟨xs, (Below.of s).sqt h1, by rw [isEmpty_all h2]⟩)
  · cases e
theorem tru_exc {d : D} {x : Ex} : dTru d ≠ .exc x := by
  unfold dTru
  split <;> first
    | (intro e; cases e; done)
    | (split <;> intro e <;> cases e)
theorem Po.tru {α ω : Type} {R : Hp → ω → α → Prop} {σ : St} {F H : Hp} {d : D} {g : Bool → Res α} {Q : ω → Hp → Prop} (k : Po R K xm σ F H ((dTru d).bind g) Q) : ∃ b, dTru d = .ok b ∧ Po R K xm σ F H (g b) Q := by
  cases e : dTru d with
  | ok b => exact ⟨b, rfl, by rw [e] at k; exact k⟩
  | exc x => exact absurd e tru_exc
  | bad => rw [e] at k; exact k.elim
def bT (f : VEnv → Res D) : VEnv → Res Bool := fun ρ => (f ρ).bind dTru
theorem ft_tru {e : Expr} {f : VEnv → Res D} (h : FE K xm X e f) (hk : X.K = K := by rfl) (he : ∀ whole, isTrue e X.env whole = (do let v ← whole; standAt e.pos; holding [v] (truthy v)) := by intro _; rfl) : FT K xm X e (bT f) := by
  subst hk
  exact PT.to (pt_truth h he) fun σ H Q ⟨F, ρ, sF, vw, k⟩ => ⟨F, ρ, sF, vw, Po.seq k fun a x F1 H1 g1 d1 k1 => by
    cases e : dTru a with
    | ok b =>
      rw [e] at k1
      exact ⟨b, tru_of g1.fh d1 e, k1.done g1.fh rfl⟩
    | exc x => exact absurd e tru_exc
    | bad => rw [e] at k1; exact k1.elim⟩
theorem po_bl {σ : St} {F H : Hp} {r : Res D} {Q : Bool → Hp → Prop} (nb : ∀ d, r = .ok d → ∃ b, d = .bl b) (k : Po RB K xm σ F H (r.bind dTru) Q) : Po (RD K) K xm σ F H r fun v H' => ∃ c, v = V.bl c ∧ Q c H' := by
  cases e : r with
  | ok d =>
    obtain ⟨c, rfl⟩ := nb _ e
    rw [e] at k
    intro w F3 H3 g3 d3
    exact ⟨c, d3.blE, k c F3 H3 g3 rfl⟩
  | exc x => rw [e] at k; exact k
  | bad => rw [e] at k; exact k
/-- the operator tells a truth -/
def Bls (K : PySem.W.Frag) (r : R2) : Prop := ∀ x y H Q, r x y H Q → r x y H fun v H' => (∃ b, v = .bl b) ∧ Q v H'
theorem ft_cmp {a b : Expr} {op : CmpOp} {pos : Pos} {r : R2} {g : D → D → Res D} {fa fb : VEnv → Res D} (ho : OpR X (compareOp op) r) (h : OpD K r g) (hg : ∀ x y d, g x y = .ok d → ∃ b, d = .bl b) (ha : FE K xm X a fa) (hb : FE K xm X b fb)
    (hm : behindInMarks op b = false := by first | exact nomark _ | rfl) : FT K xm X (.Compare a [op] [b] pos) (bT (eOp g fa fb)) := PT.to (pt_cmpR ho ha hb hm) fun σ H Q ⟨F, ρ, sF, vw, k⟩ => by
  unfold bT eOp at k
  rw [Res.bind_assoc] at k
  refine ⟨F, ρ, sF, vw, Po.seq k fun a x F1 H1 g1 d1 k1 => ⟨F1, ρ, g1.fh, vw.same g1.ff, ?_⟩⟩
  rw [Res.bind_assoc] at k1
  refine Po.seq k1 fun b y F2 H2 g2 d2 k2 => h xm σ F2 H2 x y a b _ g2.fh (d1.same g2.ff) d2 ?_
  exact po_bl (fun d e => hg _ _ _ e) k2
def bNot (f : VEnv → Res Bool) : VEnv → Res Bool := fun ρ => (f ρ).bind fun b => .ok (!b)
def bAnd (f g : VEnv → Res Bool) : VEnv → Res Bool := fun ρ => (f ρ).bind fun b => if b = true then g ρ else .ok false
def bOr (f g : VEnv → Res Bool) : VEnv → Res Bool := fun ρ => (f ρ).bind fun b => if b = true then .ok true else g ρ
theorem ft_not {a : Expr} {pos : Pos} {f : VEnv → Res Bool} (h : FT K xm X a f) : FT K xm X (.UnaryOp .Not a pos) (bNot f) := PT.to (pt_not h) fun σ H Q ⟨F, ρ, sF, vw, k⟩ => ⟨F, ρ, sF, vw, Po.seq k fun a x F1 H1 g1 d1 k1 => by
  subst d1
  exact k1.done g1.fh rfl⟩
theorem fw_and1 {a : Expr} {pos : Pos} {f : VEnv → Res Bool} (h : FT K xm X a f) : FW K xm X (.BoolOp .And [a] pos) f := pw_and1 h
theorem fw_or1 {a : Expr} {pos : Pos} {f : VEnv → Res Bool} (h : FT K xm X a f) : FW K xm X (.BoolOp .Or [a] pos) f := pw_or1 h
theorem fw_and {a b : Expr} {rest : List Expr} {pos : Pos} {f g : VEnv → Res Bool} (h : FT K xm X a f) (r : FW K xm X (.BoolOp .And (b :: rest) pos) g) : FW K xm X (.BoolOp .And (a :: b :: rest) pos) (bAnd f g) :=
  PW.to (pw_and h r) fun σ H Q ⟨F, ρ, sF, vw, k⟩ => ⟨F, ρ, sF, vw, Po.seq k fun a x F1 H1 g1 d1 k1 => by
    subst d1
    cases x with
    | true =>
      rw [if_pos rfl] at k1
      exact iteT ⟨F1, ρ, g1.fh, vw.same g1.ff, k1⟩
    | false =>
      rw [if_neg Bool.false_ne_true] at k1
      exact iteF (k1.done g1.fh rfl)⟩
theorem fw_or {a b : Expr} {rest : List Expr} {pos : Pos} {f g : VEnv → Res Bool} (h : FT K xm X a f) (r : FW K xm X (.BoolOp .Or (b :: rest) pos) g) : FW K xm X (.BoolOp .Or (a :: b :: rest) pos) (bOr f g) :=
  PW.to (pw_or h r) fun σ H Q ⟨F, ρ, sF, vw, k⟩ => ⟨F, ρ, sF, vw, Po.seq k fun a x F1 H1 g1 d1 k1 => by
    subst d1
    cases x with
    | true =>
      rw [if_pos rfl] at k1
      exact iteT (k1.done g1.fh rfl)
    | false =>
      rw [if_neg Bool.false_ne_true] at k1
      exact iteF ⟨F1, ρ, g1.fh, vw.same g1.ff, k1⟩⟩
theorem ft_w {a : Expr} {f : VEnv → Res Bool} (h : FW K xm X a f) : FT K xm X a f := PW.pt h
/-! ### and, or, not as values; a if t else b -/
def eAnd (f g : VEnv → Res D) : VEnv → Res D := fun ρ => (f ρ).bind fun a => (dTru a).bind fun b => if b = true then g ρ else .ok a
def eOr (f g : VEnv → Res D) : VEnv → Res D := fun ρ => (f ρ).bind fun a => (dTru a).bind fun b => if b = true then .ok a else g ρ
def eNot (f : VEnv → Res D) : VEnv → Res D := fun ρ => (f ρ).bind fun a => (dTru a).bind fun b => .ok (.bl (!b))
theorem fe_one {op : BoolOp} {a : Expr} {pos : Pos} {f : VEnv → Res D} (h : FE K xm X a f) : FE K xm X (.BoolOp op [a] pos) f := pe_one h
theorem fe_and {a b : Expr} {rest : List Expr} {pos : Pos} {f g : VEnv → Res D} (h : FE K xm X a f) (r : FE K xm X (.BoolOp .And (b :: rest) pos) g) (hk : X.K = K := by rfl) : FE K xm X (.BoolOp .And (a :: b :: rest) pos) (eAnd f g) := by
  subst hk
  exact PE.to (pe_andT h r) fun σ H Q ⟨F, ρ, sF, vw, k⟩ => ⟨F, ρ, sF, vw, Po.seq k fun a x F1 H1 g1 d1 k1 => by
    obtain ⟨b, e, k2⟩ := Po.tru k1
    refine ⟨b, tru_of g1.fh d1 e, ?_⟩
    cases b with
    | true => exact iteT ⟨F1, ρ, g1.fh, vw.same g1.ff, by rwa [if_pos rfl] at k2⟩
    | false =>
      rw [if_neg Bool.false_ne_true] at k2
      exact iteF (k2.done g1.fh d1)⟩
theorem fe_or {a b : Expr} {rest : List Expr} {pos : Pos} {f g : VEnv → Res D} (h : FE K xm X a f) (r : FE K xm X (.BoolOp .Or (b :: rest) pos) g) (hk : X.K = K := by rfl) : FE K xm X (.BoolOp .Or (a :: b :: rest) pos) (eOr f g) := by
  subst hk
  exact PE.to (pe_orT h r) fun σ H Q ⟨F, ρ, sF, vw, k⟩ => ⟨F, ρ, sF, vw, Po.seq k fun a x F1 H1 g1 d1 k1 => by
    obtain ⟨b, e, k2⟩ := Po.tru k1
    refine ⟨b, tru_of g1.fh d1 e, ?_⟩
    cases b with
    | true =>
      rw [if_pos rfl] at k2
      exact iteT (k2.done g1.fh d1)
    | false => exact iteF ⟨F1, ρ, g1.fh, vw.same g1.ff, by rwa [if_neg Bool.false_ne_true] at k2⟩⟩
theorem fe_not {a : Expr} {pos : Pos} {f : VEnv → Res D} (h : FE K xm X a f) (hk : X.K = K := by rfl) : FE K xm X (.UnaryOp .Not a pos) (eNot f) := by
  subst hk
  exact PE.to (pe_notT h) fun σ H Q ⟨F, ρ, sF, vw, k⟩ => ⟨F, ρ, sF, vw, Po.seq k fun a x F1 H1 g1 d1 k1 => by
    obtain ⟨b, e, k2⟩ := Po.tru k1
    exact ⟨b, tru_of g1.fh d1 e, k2.done g1.fh (.bl _)⟩⟩
def eIf (c : VEnv → Res Bool) (f g : VEnv → Res D) : VEnv → Res D := fun ρ => (c ρ).bind fun b => if b = true then f ρ else g ρ
/-! ### a < b < c -/
def dBl : D → Res Bool
  | .bl b => .ok b
  | _ => .bad
def eChain (g g' : D → D → Res D) (fa fb fc : VEnv → Res D) : VEnv → Res D := fun ρ => (fa ρ).bind fun a => (fb ρ).bind fun b => (g a b).bind fun z => (dBl z).bind fun k => if k = true then (fc ρ).bind fun c => g' b c else .ok (.bl false)
theorem tF.chain {r r' : R2} {g g' : D → D → Res D} {fa fb fc : VEnv → Res D} (h : OpD K r g) (h' : OpD K r' g') {σ : St} {H : Hp} {Q : VK} (k : tF K xm (eChain g g' fa fb fc) σ H Q) : tChain r r' (tF K xm fa) (tF K xm fb) (tF K xm fc) σ H Q := by
  obtain ⟨F, ρ, sF, vw, k⟩ := k
  refine ⟨F, ρ, sF, vw, Po.seq k fun a x F1 H1 g1 d1 k1 => ⟨F1, ρ, g1.fh, vw.same g1.ff, Po.seq k1 fun b y F2 H2 g2 d2 k2 => h xm σ F2 H2 x y a b _ g2.fh (d1.same g2.ff) d2 (Po.seq k2 fun z v F3 H3 g3 d3 k3 => ?_)⟩⟩
  unfold dBl at k3
  cases z with
  | bl c =>
    refine ⟨c, d3.blE, ?_⟩
    cases c with
    | true =>
      refine iteT ⟨F3, ρ, g3.fh, vw.same ((g1.ff.trans g2.ff).trans g3.ff), ?_⟩
      have k4 : Po (RD K) K xm σ F3 H3 ((fc ρ).bind fun c => g' b c) Q := k3
      exact Po.seq k4 fun c w F4 H4 g4 d4 k5 => h' xm σ F4 H4 y w b c Q g4.fh ((d2.same g3.ff).same g4.ff) d4 k5
    | false => exact iteF (Po.done (R := RD K) (a := D.bl false) k3 g3.fh (.bl _))
  | _ => exact k3.elim
theorem fe_chain {a b c : Expr} {op op' : CmpOp} {pos : Pos} {r r' : R2} {g g' : D → D → Res D} {fa fb fc : VEnv → Res D} (ho : OpR X (compareOp op) r) (h : OpD K r g) (ho' : OpR X (compareOp op') r') (h' : OpD K r' g') (ha : FE K xm X a fa) (hb : FE K xm X b fb) (hc : FE K xm X c fc)
    (hm : lastMarks [op, op'] [b, c] = false := by with_unfolding_all rfl) : FE K xm X (.Compare a [op, op'] [b, c] pos) (eChain g g' fa fb fc) := PE.to (pe_chain ho ho' ha hb hc hm) fun _ _ _ k => k.chain h h'
theorem ft_chain {a b c : Expr} {op op' : CmpOp} {pos : Pos} {r r' : R2} {g g' : D → D → Res D} {fa fb fc : VEnv → Res D} (ho : OpR X (compareOp op) r) (h : OpD K r g) (ho' : OpR X (compareOp op') r') (h' : OpD K r' g') (hg : ∀ x y d, g' x y = .ok d → ∃ b, d = .bl b)
    (ha : FE K xm X a fa) (hb : FE K xm X b fb) (hc : FE K xm X c fc) (hm : lastMarks [op, op'] [b, c] = false := by with_unfolding_all rfl) : FT K xm X (.Compare a [op, op'] [b, c] pos) (bT (eChain g g' fa fb fc)) :=
  PT.to (pt_chain ho ho' ha hb hc hm) fun σ H Q ⟨F, ρ, sF, vw, k⟩ => by
    refine tF.chain h h' ⟨F, ρ, sF, vw, ?_⟩
    unfold bT at k
    have nb : ∀ d, eChain g g' fa fb fc ρ = .ok d → ∃ b, d = .bl b := fun d e => by
      unfold eChain at e
      cases e1 : fa ρ with
      | ok a =>
        rw [e1, Res.bind_ok] at e
        cases e2 : fb ρ with
        | ok b =>
          rw [e2, Res.bind_ok] at e
          cases e3 : g a b with
          | ok z =>
            rw [e3, Res.bind_ok] at e
            cases e4 : dBl z with
            | ok k =>
              rw [e4, Res.bind_ok] at e
              cases k with
              | true =>
                rw [if_pos rfl] at e
                cases e5 : fc ρ with
                | ok c => rw [e5, Res.bind_ok] at e; exact hg _ _ _ e
                | exc x => rw [e5] at e; cases e
                | bad => rw [e5] at e; cases e
              | false =>
                rw [if_neg Bool.false_ne_true] at e
                cases e
                exact ⟨_, rfl⟩
            | exc x => rw [e4] at e; cases e
            | bad => rw [e4] at e; cases e
          | exc x => rw [e3] at e; cases e
          | bad => rw [e3] at e; cases e
        | exc x => rw [e2] at e; cases e
        | bad => rw [e2] at e; cases e
      | exc x => rw [e1] at e; cases e
      | bad => rw [e1] at e; cases e
    exact po_bl nb k
/-! ### calls of built-ins -/
def eCall (g : List D → Res D) (fa : VEnv → Res (List D)) : VEnv → Res D := fun ρ => (fa ρ).bind g
theorem fe_callB {x : Str} {id : String} {r : List V → Hp → VK → Prop} {g : List D → Res D} {e : Expr} {es : List Expr} {p pos : Pos} {fa : VEnv → Res (List D)} (hc : CallR X (.builtin id) r) (h : CallD K r g) (hm : X.mg x = none) (ha : FA K xm X (e :: es) fa) (hg : Gl X x := by rfl) (hv : bootBuiltins x = some (.builtin id) := by decide +kernel)
    (hn : x ≠ "__name__" := by decide) (hdb : (x == ("__debug__" : Str)) = false := by decide) (he : starEach (e :: es) X.env = (false, eval e X.env) :: starEach es X.env := by rfl) (hpl : (backTo pos (starEach es X.env)).any (·.1) = false := by rfl) :
    FE K xm X (.Call (.Name x p) (e :: es) [] pos) (eCall g fa) := PE.to (pe_callB hc hg hm hv ha hn hdb he hpl) fun σ H Q ⟨F, ρ, sF, vw, k⟩ => ⟨F, ρ, sF, vw, Po.seq k fun ds vs F1 H1 g1 d1 k1 => h xm σ F1 H1 vs ds Q g1.fh d1 k1⟩
theorem fe_callT {x : Str} {id : String} {r : List V → Hp → VK → Prop} {g : List D → Res D} {e : Expr} {es : List Expr} {p pos : Pos} {fa : VEnv → Res (List D)} (hc : CallR X (.type id) r) (h : CallD K r g) (hm : X.mg x = none) (ha : FA K xm X (e :: es) fa) (hg : Gl X x := by rfl) (hv : bootBuiltins x = some (.type id) := by decide +kernel)
    (hn : x ≠ "__name__" := by decide) (hdb : (x == ("__debug__" : Str)) = false := by decide) (he : starEach (e :: es) X.env = (false, eval e X.env) :: starEach es X.env := by rfl) (hpl : (backTo pos (starEach es X.env)).any (·.1) = false := by rfl) :
    FE K xm X (.Call (.Name x p) (e :: es) [] pos) (eCall g fa) := PE.to (pe_callTy hc hg hm hv ha hn hdb he hpl) fun σ H Q ⟨F, ρ, sF, vw, k⟩ => ⟨F, ρ, sF, vw, Po.seq k fun ds vs F1 H1 g1 d1 k1 => h xm σ F1 H1 vs ds Q g1.fh d1 k1⟩
/-! ### promises of defs that compute a function -/
/-- no exception leaves -/
def sp0 (K : PySem.W.Frag) (f : List D → Res D) : Sp := fun vs H Q _ => ∃ ds G, Same G H ∧ DtAll K G vs ds ∧ ∃ d, f ds = .ok d ∧ ∀ v G' H', Gr G H G' H' → Dt K G' v d → Q v H'
/-- an exception may leave -/
def spX (K : PySem.W.Frag) (mg : Str → Option Value) (f : List D → Res D) : Sp := fun vs H Q E => ∃ ds G, Same G H ∧ DtAll K G vs ds ∧ match f ds with
  | .ok d => ∀ v G' H', Gr G H G' H' → Dt K G' v d → Q v H'
  | .exc x => ∀ C dd G' H', Gr G H G' H' → ExIs K mg x G' C dd → E C dd H'
  | .bad => False
theorem fe_call {x : Str} {k k' : Nat} {ps : List Str} {f : List D → Res D} {e : Expr} {es : List Expr} {p pos : Pos} {fa : VEnv → Res (List D)} (O : Dear.OkF X.prog X.w X.K X.mg X.base CX0 k x ps (sp0 K f)) (hr : Room k' X.A) (ha : FA K none X (e :: es) fa) (hk : k ≤ k' := by decide) (hg : Gl X x := by rfl)
    (hdb : (x == ("__debug__" : Str)) = false := by decide) (he : starEach (e :: es) X.env = (false, eval e X.env) :: starEach es X.env := by rfl) (hpl : (backTo pos (starEach es X.env)).any (·.1) = false := by rfl) : FE K none X (.Call (.Name x p) (e :: es) [] pos) (eCall f fa) :=
  PE.to (Dear.pe_c O hr ha hk hg hdb he hpl) fun σ H Q ⟨F, ρ, sF, vw, k⟩ => ⟨F, ρ, sF, vw, Po.seq k fun ds vs F1 H1 g1 d1 k1 => by
    refine ⟨ds, F1, g1.fh, by rw [List.append_nil]; exact d1, ?_⟩
    cases e : f ds with
    | ok d => rw [e] at k1; exact ⟨d, rfl, k1⟩
    | exc x => rw [e] at k1; exact k1.elim
    | bad => rw [e] at k1; exact k1.elim⟩
/-- f's exceptions are none that the caller waits for: they are as no answer -/
def nx (f : List D → Res D) : List D → Res D := fun ds => match f ds with
  | .ok d => .ok d
  | _ => .bad
end
end Du

namespace Du
open PySem PySem.Spec PyProof.Rows L2
section
variable {K : PySem.W.Frag} {xm : XMo} {X : Cx}
/-! ### what is walked, as data -/
structure Yl (K : PySem.W.Frag) (F : Hp) (J : It) (ds : List D) : Prop where
  go : ∀ i H, i < ds.length → Same F H → J.go i H
  yld : ∀ i d F1 H x H', ds[i]? = some d → Same F F1 → Same F1 H → J.yld i H x H' → ∃ F2, Gr F1 H F2 H' ∧ Dt K F2 x d
  stop : ∀ H, Same F H → J.stop ds.length H
theorem Yl.same {F G : Hp} {J : It} {ds : List D} (y : Yl K F J ds) (s : Same F G) : Yl K G J ds :=
  ⟨fun i H h q => y.go i H h (s.trans q), fun i d F1 H x H' e q => y.yld i d F1 H x H' e (s.trans q), fun H q => y.stop H (s.trans q)⟩
def iF (K : PySem.W.Frag) (xm : XMo) (f : VEnv → Res (List D)) : TI := fun σ H R => ∃ F ρ, Same F H ∧ Vw K F σ ρ ∧ Po (fun F' J ds => Yl K F' J ds) K xm σ F H (f ρ) R
abbrev FI (K : PySem.W.Frag) (xm : XMo) (X : Cx) (tg e : Expr) (f : VEnv → Res (List D)) : Prop := PI X tg e (iF K xm f)
theorem PI.to {tg e : Expr} {t t' : TI} (h : PI X tg e t) (m : ∀ σ H R, t' σ H R → t σ H R) : PI X tg e t' := ⟨fun pins s σ H R I q => h.run pins s σ H R I (m _ _ _ q)⟩
theorem PI.or {tg e : Expr} {t t' : TI} (h : PI X tg e t) (h' : PI X tg e t') : PI X tg e fun σ H R => t σ H R ∨ t' σ H R := ⟨fun pins s σ H R I q => q.elim (h.run pins s σ H R I) (h'.run pins s σ H R I)⟩
theorem yl_list {F : Hp} {a : Addr} {xs : List V} {ds : List D} (h : ∀ H, Same F H → SqL K H a xs) (d : DtAll K F xs ds) : Yl K F (Itl K a) ds := by
  have l := d.length
  refine ⟨fun i H hi s => ⟨xs, xs[i], h H s, by rw [List.getElem?_eq_getElem (by omega)]⟩, fun i e F1 H x H' he s s1 y => ?_, fun H s => ⟨xs, h H s, by omega⟩⟩
  obtain ⟨rfl, y⟩ := y
  obtain ⟨v, e1, e2⟩ := d.at he
  have := y xs (h H' (s.trans s1))
  rw [e1] at this
  cases this
  exact ⟨F1, .refl s1, e2.same s⟩
theorem yl_tup {F : Hp} {a : Addr} {xs : List V} {ds : List D} (h : ∀ H, Same F H → SqT K H a xs) (d : DtAll K F xs ds) : Yl K F (Itt K a) ds := by
  have l := d.length
  refine ⟨fun i H hi s => ⟨xs, xs[i], h H s, by rw [List.getElem?_eq_getElem (by omega)]⟩, fun i e F1 H x H' he s s1 y => ?_, fun H s => ⟨xs, h H s, by omega⟩⟩
  obtain ⟨rfl, y⟩ := y
  obtain ⟨v, e1, e2⟩ := d.at he
  have := y xs (h H' (s.trans s1))
  rw [e1] at this
  cases this
  exact ⟨F1, .refl s1, e2.same s⟩
/-- the signs of a text -/
def signs (z : Str) : List D := z.cps.toList.map fun c => .str ⟨#[c]⟩
theorem yl_str {F : Hp} (z : Str) : Yl K F (Its z) (signs z) := by
  have l : (signs z).length = z.cps.size := by unfold signs; rw [List.length_map, Array.length_toList]
  refine ⟨fun i H hi s => (by rw [l] at hi; exact hi), fun i e F1 H x H' he s s1 y => ?_, fun H s => (by rw [l]; exact Nat.le_refl _)⟩
  obtain ⟨rfl, c, hc, rfl⟩ := y
  unfold signs at he
  rw [List.getElem?_map, Array.getElem?_toList, hc] at he
  cases he
  exact ⟨F1, .refl s1, .str _⟩
/-- for x in e: a list, a tuple, the script, a text -/
def dItems : D → Res (List D)
  | .lst ds => .ok ds
  | .tup ds => .ok ds
  | .scr ns => .ok (ns.map D.int)
  | .str z => .ok (signs z)
  | _ => .bad
def iAny (f : VEnv → Res D) : VEnv → Res (List D) := fun ρ => (f ρ).bind dItems
theorem fi_any {tg e : Expr} {f : VEnv → Res D} (h : FE K xm X e f) (hk : X.K = K := by rfl) : FI K xm X tg e (iAny f) := by
  subst hk
  refine PI.to (PI.or (PI.or (pi_list h) (pi_tup h)) (pi_str h)) fun σ H R ⟨F, ρ, sF, vw, k⟩ => ?_
  unfold iAny at k
  cases e : f ρ with
  | exc x =>
    rw [e] at k
    exact .inl (.inl ⟨F, ρ, sF, vw, by rw [e]; exact k⟩)
  | bad => rw [e] at k; exact k.elim
  | ok d =>
    rw [e] at k
    cases d with
    | lst ds =>
      refine .inl (.inl ⟨F, ρ, sF, vw, ?_⟩)
      rw [e]
      intro x F1 H1 g1 d1
      obtain ⟨p, xs, rfl, h1, h2⟩ := d1.lstE
      exact ⟨p, rfl, ⟨xs, SqL.of (g1.fh _ _ h1)⟩, k _ F1 H1 g1 (yl_list (fun H s => SqL.of (s _ _ h1)) h2)⟩
    | scr ns =>
      refine .inl (.inl ⟨F, ρ, sF, vw, ?_⟩)
      rw [e]
      intro x F1 H1 g1 d1
      cases d1 with
      | scr h1 => exact ⟨_, rfl, ⟨_, (Below.of g1.fh).sql h1⟩, k _ F1 H1 g1 (yl_list (fun H s => (Below.of s).sql h1) (Dt.ints ns))⟩
    | tup ds =>
      refine .inl (.inr ⟨F, ρ, sF, vw, ?_⟩)
      rw [e]
      intro x F1 H1 g1 d1
      obtain ⟨p, xs, rfl, h1, h2⟩ := d1.tupE
      exact ⟨p, rfl, ⟨xs, (Below.of g1.fh).sqt h1⟩, k _ F1 H1 g1 (yl_tup (fun H s => (Below.of s).sqt h1) h2)⟩
    | str z =>
      refine .inr ⟨F, ρ, sF, vw, ?_⟩
      rw [e]
      intro x F1 H1 g1 d1
      exact ⟨z, d1.strE, k _ F1 H1 g1 (yl_str z)⟩
    | _ => exact k.elim
/-! ### range -/
def rangeD (lo : Int) (n : Nat) : List D := (List.range n).map fun i => .int (lo + (i : Nat))
theorem yl_rng {F : Hp} (lo : Int) (n : Nat) : Yl K F (Itr lo n) (rangeD lo n) := by
  have l : (rangeD lo n).length = n := by unfold rangeD; rw [List.length_map, List.length_range]
  refine ⟨fun i H hi s => (by rw [l] at hi; exact hi), fun i e F1 H x H' he s s1 y => ?_, fun H s => (by rw [l]; exact Nat.le_refl _)⟩
  obtain ⟨rfl, rfl⟩ := y
  unfold rangeD at he
  rw [List.getElem?_map] at he
  obtain ⟨j, h1, rfl⟩ := Option.map_eq_some_iff.mp he
  have := List.getElem?_eq_some_iff.mp h1
  obtain ⟨h2, h3⟩ := this
  rw [List.getElem_range] at h3
  subst h3
  exact ⟨F1, .refl s1, .int _⟩
def inR (i : Int) : Bool := decide (-(2 ^ 62) ≤ i ∧ i < 2 ^ 62)
def dRange : List D → Res (List D)
  | [.int j] => if inR j = true then .ok (rangeD 0 j.toNat) else .bad
  | [.int i, .int j] => if (inR i && inR j) = true then .ok (rangeD i (j - i).toNat) else .bad
  | [.int i, .int j, .int (-1)] => if (inR i && inR j) = true then .ok ((List.range (i - j).toNat).map fun k => .int (i - (k : Nat))) else .bad
  | [.int i, .int j, .int 2] => if (inR i && inR j) = true then .ok ((List.range ((j - i + 1) / 2).toNat).map fun k => .int (i + 2 * (k : Nat))) else .bad
  | _ => .bad
def iRange (f : VEnv → Res (List D)) : VEnv → Res (List D) := fun ρ => (f ρ).bind dRange
theorem DtAll.one {F : Hp} {vs : List V} {d : D} (h : DtAll K F vs [d]) : ∃ v, vs = [v] ∧ Dt K F v d := by
  cases h with
  | cons a b => cases b; exact ⟨_, rfl, a⟩
theorem DtAll.two {F : Hp} {vs : List V} {d e : D} (h : DtAll K F vs [d, e]) : ∃ v w, vs = [v, w] ∧ Dt K F v d ∧ Dt K F w e := by
  cases h with
  | cons a b =>
    obtain ⟨w, rfl, c⟩ := b.one
    exact ⟨_, w, rfl, a, c⟩
theorem fi_range1 {tg a : Expr} {p pos : Pos} {f : VEnv → Res (List D)} (hm : X.mg "range" = none) (h : FA K xm X [a] f) (hg : Gl X "range" := by rfl) (hs : starEach [a] X.env = [(false, eval a X.env)] := by rfl) (h1 : ∀ ρ ds, f ρ = .ok ds → ds.length = 1) :
    FI K xm X tg (.Call (.Name "range" p) [a] [] pos) (iRange f) := PI.to (pi_range1 hg hm h hs) fun σ H R ⟨F, ρ, sF, vw, k⟩ => by
  unfold iRange at k
  cases e : f ρ with
  | exc x => rw [e] at k; exact ⟨F, ρ, sF, vw, by rw [e]; exact k⟩
  | bad => rw [e] at k; exact k.elim
  | ok ds =>
    rw [e] at k
    refine ⟨F, ρ, sF, vw, ?_⟩
    rw [e]
    intro vs F1 H1 g1 d1
    match ds, h1 ρ ds e with
    | [d], _ =>
      cases d with
      | int j =>
        obtain ⟨v, rfl, q⟩ := d1.one
        have k' : Po (fun F' J ds => Yl K F' J ds) K xm σ F H (if inR j = true then Res.ok (rangeD 0 j.toNat) else .bad) R := k
        obtain ⟨f, k'⟩ := Po.ite k'
        have f := of_decide_eq_true f
        exact ⟨j, by rw [q.intE], f.1, f.2, k' _ F1 H1 g1 (yl_rng 0 _)⟩
      | _ => exact k.elim
theorem len1 {f : VEnv → Res D} : ∀ ρ ds, aCons f aNil ρ = .ok ds → ds.length = 1 := fun ρ ds e => by
  unfold aCons aNil at e
  cases h : f ρ with
  | ok a => rw [h] at e; cases e; rfl
  | exc x => rw [h] at e; cases e
  | bad => rw [h] at e; cases e
theorem len2 {f g : VEnv → Res D} : ∀ ρ ds, aCons f (aCons g aNil) ρ = .ok ds → ds.length = 2 := fun ρ ds e => by
  unfold aCons aNil at e
  cases h : f ρ with
  | ok a =>
    cases h2 : g ρ with
    | ok b => rw [h, Res.bind_ok, h2] at e; cases e; rfl
    | exc x => rw [h, Res.bind_ok, h2] at e; cases e
    | bad => rw [h, Res.bind_ok, h2] at e; cases e
  | exc x => rw [h] at e; cases e
  | bad => rw [h] at e; cases e
/-! ### enumerate, zip: pairs in new tuples -/
def numbered : Nat → List D → List D
  | _, [] => []
  | n, d :: ds => .tup [.int n, d] :: numbered (n + 1) ds
theorem numbered_len : ∀ (n : Nat) (ds : List D), (numbered n ds).length = ds.length
  | _, [] => rfl
  | n, _ :: ds => by rw [numbered, List.length_cons, numbered_len (n + 1) ds, List.length_cons]
theorem numbered_get : ∀ {n i : Nat} {ds : List D} {d : D}, (numbered n ds)[i]? = some d → ∃ e, ds[i]? = some e ∧ d = .tup [.int ((n + i : Nat) : Int), e]
  | n, i, [], d, h => by simp [numbered] at h
  | n, 0, x :: ds, d, h => by
    rw [numbered] at h
    simp at h
    exact ⟨x, rfl, h.symm⟩
  | n, i + 1, x :: ds, d, h => by
    rw [numbered] at h
    obtain ⟨e, h1, h2⟩ := numbered_get (n := n + 1) (i := i) (ds := ds) (by simpa using h)
    exact ⟨e, by simpa using h1, by rw [h2]; congr 4; omega⟩
def dEnum : List D → Res (List D)
  | [.lst ds] => .ok (numbered 0 ds)
  | [.scr ns] => .ok (numbered 0 (ns.map D.int))
  | _ => .bad
def iEnumD (f : VEnv → Res (List D)) : VEnv → Res (List D) := fun ρ => (f ρ).bind dEnum
theorem yl_enum {F : Hp} {a : Addr} {xs : List V} {ds : List D} (h : ∀ H, Same F H → SqL K H a xs) (d : DtAll K F xs ds) : Yl K F (Ite K a) (numbered 0 ds) := by
  have l := d.length
  refine ⟨fun i H hi s => ⟨xs, xs[i]'(by rw [numbered_len] at hi; omega), h H s, by rw [List.getElem?_eq_getElem]⟩, fun i e F1 H x H' he s s1 y => ?_, fun H s => ⟨xs, h H s, by rw [numbered_len]; omega⟩⟩
  obtain ⟨T, x, rfl, hT, rfl, y⟩ := y
  obtain ⟨e, hb, rfl⟩ := numbered_get he
  obtain ⟨v, e1, e2⟩ := d.at hb
  have := y xs (h H (s.trans s1))
  rw [e1] at this
  cases this
  have w := sm_upd (o := .tup [.int (i : Nat), x]) (s1.free hT)
  refine ⟨_, .new s1 hT, .tup upd_same (.cons ?_ (.cons ((e2.same s).same w) .nil))⟩
  rw [Nat.zero_add]
  exact .int _
theorem fi_enum {e : Expr} {p pos tpos : Pos} {elts : List Expr} {kk : Nat} {f : VEnv → Res (List D)} (hm : X.mg "enumerate" = none) (h : FA K xm X [e] f) (h1 : ∀ ρ ds, f ρ = .ok ds → ds.length = 1) (hk : X.K = K := by rfl) (hg : Gl X "enumerate" := by rfl) (hs : starEach [e] X.env = [(false, eval e X.env)] := by rfl) :
    FI K xm X (.Tuple elts kk tpos) (.Call (.Name "enumerate" p) [e] [] pos) (iEnumD f) := by
  subst hk
  refine PI.to (pi_enum hg hm h hs) fun σ H R ⟨F, ρ, sF, vw, k⟩ => ?_
  unfold iEnumD at k
  cases e : f ρ with
  | exc x => rw [e] at k; exact ⟨F, ρ, sF, vw, by rw [e]; exact k⟩
  | bad => rw [e] at k; exact k.elim
  | ok ds =>
    rw [e] at k
    refine ⟨F, ρ, sF, vw, ?_⟩
    rw [e]
    intro vs F1 H1 g1 d1
    match ds, h1 ρ ds e with
    | [d], _ =>
      obtain ⟨v, rfl, q⟩ := d1.one
      cases d with
      | lst ds =>
        obtain ⟨p, xs, rfl, h1, h2⟩ := q.lstE
        exact ⟨p, xs, rfl, SqL.of (g1.fh _ _ h1), k _ F1 H1 g1 (yl_enum (fun H s => SqL.of (s _ _ h1)) h2)⟩
      | scr ns =>
        cases q with
        | scr h1 => exact ⟨_, _, rfl, (Below.of g1.fh).sql h1, k _ F1 H1 g1 (yl_enum (fun H s => (Below.of s).sql h1) (Dt.ints ns))⟩
      | _ => exact k.elim
def pairs : List D → List D → List D
  | a :: as, b :: bs => .tup [a, b] :: pairs as bs
  | _, _ => []
theorem pairs_len : ∀ (as bs : List D), (pairs as bs).length = min as.length bs.length
  | [], _ => by simp [pairs]
  | _ :: _, [] => by simp [pairs]
  | _ :: as, _ :: bs => by rw [pairs, List.length_cons, pairs_len as bs, List.length_cons, List.length_cons]; omega
theorem pairs_get : ∀ {i : Nat} {as bs : List D} {d : D}, (pairs as bs)[i]? = some d → ∃ a b, as[i]? = some a ∧ bs[i]? = some b ∧ d = .tup [a, b]
  | i, [], _, d, h => by simp [pairs] at h
  | i, _ :: _, [], d, h => by simp [pairs] at h
  | 0, a :: as, b :: bs, d, h => by
    rw [pairs] at h
    simp at h
    exact ⟨a, b, rfl, rfl, h.symm⟩
  | i + 1, a :: as, b :: bs, d, h => by
    rw [pairs] at h
    obtain ⟨x, y, h1, h2, h3⟩ := pairs_get (i := i) (as := as) (bs := bs) (by simpa using h)
    exact ⟨x, y, by simpa using h1, by simpa using h2, h3⟩
def dZip : List D → Res (List D)
  | [.lst as, .lst bs] => .ok (pairs as bs)
  | [.tup as, .tup bs] => .ok (pairs as bs)
  | _ => .bad
def iZipD (f : VEnv → Res (List D)) : VEnv → Res (List D) := fun ρ => (f ρ).bind dZip
theorem yl_zip {F : Hp} {a b : Addr} {xs ys : List V} {ds es : List D} (h : ∀ H, Same F H → SqL K H a xs) (h' : ∀ H, Same F H → SqL K H b ys) (d : DtAll K F xs ds) (e : DtAll K F ys es) : Yl K F (Itz K a b) (pairs ds es) := by
  have l := d.length
  have l' := e.length
  refine ⟨fun i H hi s => ⟨xs, ys, xs[i]'(by rw [pairs_len] at hi; omega), ys[i]'(by rw [pairs_len] at hi; omega), h H s, h' H s, by rw [List.getElem?_eq_getElem], by rw [List.getElem?_eq_getElem]⟩, fun i f F1 H x H' he s s1 y => ?_, fun H s => ⟨xs, ys, h H s, h' H s, by rw [pairs_len]; omega⟩⟩
  obtain ⟨T, x, z, rfl, hT, rfl, y, y'⟩ := y
  obtain ⟨p, q, hb, hb', rfl⟩ := pairs_get he
  obtain ⟨v, e1, e2⟩ := d.at hb
  obtain ⟨v', e1', e2'⟩ := e.at hb'
  have z1 := y xs (h H (s.trans s1))
  have z2 := y' ys (h' H (s.trans s1))
  rw [e1] at z1
  rw [e1'] at z2
  cases z1
  cases z2
  have w := sm_upd (o := .tup [x, z]) (s1.free hT)
  exact ⟨_, .new s1 hT, .tup upd_same (.cons ((e2.same s).same w) (.cons ((e2'.same s).same w) .nil))⟩
theorem yl_zipT {F : Hp} {a b : Addr} {xs ys : List V} {ds es : List D} (h : ∀ H, Same F H → SqT K H a xs) (h' : ∀ H, Same F H → SqT K H b ys) (d : DtAll K F xs ds) (e : DtAll K F ys es) : Yl K F (RZ.ItzT K a b) (pairs ds es) := by
  have l := d.length
  have l' := e.length
  refine ⟨fun i H hi s => ⟨xs, ys, xs[i]'(by rw [pairs_len] at hi; omega), ys[i]'(by rw [pairs_len] at hi; omega), h H s, h' H s, by rw [List.getElem?_eq_getElem], by rw [List.getElem?_eq_getElem]⟩, fun i f F1 H x H' he s s1 y => ?_, fun H s => ⟨xs, ys, h H s, h' H s, by rw [pairs_len]; omega⟩⟩
  obtain ⟨T, x, z, rfl, hT, rfl, y, y'⟩ := y
  obtain ⟨p, q, hb, hb', rfl⟩ := pairs_get he
  obtain ⟨v, e1, e2⟩ := d.at hb
  obtain ⟨v', e1', e2'⟩ := e.at hb'
  have z1 := y xs (h H (s.trans s1))
  have z2 := y' ys (h' H (s.trans s1))
  rw [e1] at z1
  rw [e1'] at z2
  cases z1
  cases z2
  have w := sm_upd (o := .tup [x, z]) (s1.free hT)
  exact ⟨_, .new s1 hT, .tup upd_same (.cons ((e2.same s).same w) (.cons ((e2'.same s).same w) .nil))⟩
theorem fi_zip {a b : Expr} {p pos tpos : Pos} {elts : List Expr} {kk : Nat} {f : VEnv → Res (List D)} (hm : X.mg "zip" = none) (h : FA K xm X [a, b] f) (h1 : ∀ ρ ds, f ρ = .ok ds → ds.length = 2) (hk : X.K = K := by rfl) (hg : Gl X "zip" := by rfl)
    (hs : starEach [a, b] X.env = (false, eval a X.env) :: starEach [b] X.env := by rfl) (hpl : (backTo pos (starEach [b] X.env)).any (·.1) = false := by rfl) : FI K xm X (.Tuple elts kk tpos) (.Call (.Name "zip" p) [a, b] [] pos) (iZipD f) := by
  subst hk
  refine PI.to (RZ.pi_zipA hg hm h hs hpl) fun σ H R ⟨F, ρ, sF, vw, k⟩ => ?_
  unfold iZipD at k
  cases e : f ρ with
  | exc x => rw [e] at k; exact ⟨F, ρ, sF, vw, by rw [e]; exact k⟩
  | bad => rw [e] at k; exact k.elim
  | ok ds =>
    rw [e] at k
    refine ⟨F, ρ, sF, vw, ?_⟩
    rw [e]
    intro vs F1 H1 g1 d1
    match ds, h1 ρ ds e with
    | [d, c], _ =>
      obtain ⟨v, w, rfl, q, r⟩ := d1.two
      cases d with
      | lst ds =>
        cases c with
        | lst es =>
          obtain ⟨p, xs, rfl, h1, h2⟩ := q.lstE
          obtain ⟨p', ys, rfl, h3, h4⟩ := r.lstE
          exact ⟨p, p', xs, ys, rfl, .inl ⟨SqL.of (g1.fh _ _ h1), SqL.of (g1.fh _ _ h3), k _ F1 H1 g1 (yl_zip (fun H s => SqL.of (s _ _ h1)) (fun H s => SqL.of (s _ _ h3)) h2 h4)⟩⟩
        | _ => exact k.elim
      | tup ds =>
        cases c with
        | tup es =>
          obtain ⟨p, xs, rfl, h1, h2⟩ := q.tupE
          obtain ⟨p', ys, rfl, h3, h4⟩ := r.tupE
          exact ⟨p, p', xs, ys, rfl, .inr ⟨(Below.of g1.fh).sqt h1, (Below.of g1.fh).sqt h3, k _ F1 H1 g1 (yl_zipT (fun H s => (Below.of s).sqt h1) (fun H s => (Below.of s).sqt h3) h2 h4)⟩⟩
        | _ => exact k.elim
      | _ => exact k.elim
end
end Du

namespace Du
open PySem PySem.Spec PyProof.Rows L2
/-! ### targets: which slots get what -/
def setAll (σ : St) : List (Nat × V) → St
  | [] => σ
  | p :: ps => setAll (σ.set p.1 (some p.2)) ps
def setAllD (ρ : VEnv) : List (Nat × D) → VEnv
  | [] => ρ
  | p :: ps => setAllD (ρ.set p.1 (some p.2)) ps
theorem setAll_app (σ : St) : ∀ a b : List (Nat × V), setAll σ (a ++ b) = setAll (setAll σ a) b
  | [], _ => rfl
  | p :: a, b => setAll_app (σ.set p.1 (some p.2)) a b
abbrev As (K : PySem.W.Frag) (F : Hp) : List (Nat × V) → List (Nat × D) → Prop := Paired fun p q => p.1 = q.1 ∧ Dt K F p.2 q.2
abbrev Tgt := D → Res (List (Nat × D))
def tgN (i : Nat) : Tgt := fun d => .ok [(i, d)]
def tgL : List Tgt → List D → Res (List (Nat × D))
  | [], [] => .ok []
  | t :: ts, d :: ds => (t d).bind fun a => (tgL ts ds).bind fun b => .ok (a ++ b)
  | _, _ => .bad
def tgT (ts : List Tgt) : Tgt := fun d => match d with
  | .tup ds => tgL ts ds
  | _ => .bad
def gF (K : PySem.W.Frag) (g : Tgt) : TG := fun v σ H Q => ∃ F d as, Same F H ∧ Dt K F v d ∧ g d = .ok as ∧ ∀ bs, As K F bs as → Q (setAll σ bs) H
def gsF (K : PySem.W.Frag) (g : List Tgt) : TGs := fun vs σ H Q => ∃ F ds as, Same F H ∧ DtAll K F vs ds ∧ tgL g ds = .ok as ∧ ∀ bs, As K F bs as → Q (setAll σ bs) H
abbrev FG (K : PySem.W.Frag) (X : Cx) (tg : Expr) (g : Tgt) : Prop := PG X tg (gF K g)
abbrev FGs (K : PySem.W.Frag) (X : Cx) (tg : List Expr) (g : List Tgt) : Prop := PGs X tg (gsF K g)
theorem tgL_len : ∀ {ts : List Tgt} {ds : List D} {as : List (Nat × D)}, tgL ts ds = .ok as → ds.length = ts.length
  | [], [], _, _ => rfl
  | [], _ :: _, _, h => by cases h
  | _ :: _, [], _, h => by cases h
  | t :: ts, d :: ds, as, h => by
    unfold tgL at h
    cases e : t d with
    | ok a =>
      rw [e, Res.bind_ok] at h
      cases e2 : tgL ts ds with
      | ok b => rw [List.length_cons, List.length_cons, tgL_len e2]
      | exc x => rw [e2] at h; cases h
      | bad => rw [e2] at h; cases h
    | exc x => rw [e] at h; cases h
    | bad => rw [e] at h; cases h
section
variable {K : PySem.W.Frag} {xm : XMo} {X : Cx}
theorem PG.to {e : Expr} {t t' : TG} (h : PG X e t) (m : ∀ v σ H Q, t' v σ H Q → t v σ H Q) : PG X e t' := ⟨fun pins s σ H v u Q I r q => h.run pins s σ H v u Q I r (m _ _ _ _ q)⟩
theorem PGs.to {e : List Expr} {t t' : TGs} (h : PGs X e t) (m : ∀ v σ H Q, t' v σ H Q → t v σ H Q) : PGs X e t' := ⟨fun pins s σ H v u Q I r q => h.run pins s σ H v u Q I r (m _ _ _ _ q)⟩
theorem fg_name (i : Nat) {x : Str} {pos : Pos} (hN : X.N.Nodup) (hi : X.N[i]? = some x := by rfl) (hx : Loc X.env.scope x := by first | exact Or.inl rfl | exact Or.inr rfl) (hf : X.fn x = true ∨ X.env.scope.names.lookup x = some .local := by first | exact .inl rfl | exact .inr rfl | assumption) : FG K X (.Name x pos) (tgN i) :=
  PG.to (pg_name hN hi hx hf) fun v σ H Q ⟨F, d, as, s, h, e, q⟩ => by
    cases e
    exact q [(i, v)] (.cons ⟨rfl, h⟩ .nil)
theorem fgs_nil : FGs K X [] [] := PGs.to pgs_nil fun v σ H Q ⟨F, d, as, s, h, e, q⟩ => by
  cases h with
  | nil => cases e; exact ⟨rfl, q [] .nil⟩
  | cons a b => cases e
theorem As.app {F : Hp} : ∀ {a b : List (Nat × V)} {c d : List (Nat × D)}, As K F a c → As K F b d → As K F (a ++ b) (c ++ d)
  | _, _, _, _, .nil, h => h
  | _, _, _, _, .cons x y, h => .cons x (As.app y h)
theorem fgs_cons {e : Expr} {es : List Expr} {g : Tgt} {gs : List Tgt} (h : FG K X e g) (r : FGs K X es gs) (hs : (assignEach (e :: es) X.env).map (·.2) = assign e X.env :: (assignEach es X.env).map (·.2) := by rfl) : FGs K X (e :: es) (g :: gs) :=
  PGs.to (pgs_cons h r hs) fun v σ H Q ⟨F, ds, as, s, hd, e, q⟩ => by
    cases hd with
    | nil => cases e
    | @cons v vs d ds a b =>
      unfold tgL at e
      cases e1 : g d with
      | exc x => rw [e1] at e; cases e
      | bad => rw [e1] at e; cases e
      | ok c =>
        rw [e1, Res.bind_ok] at e
        cases e2 : tgL gs ds with
        | exc x => rw [e2] at e; cases e
        | bad => rw [e2] at e; cases e
        | ok c' =>
          rw [e2] at e
          cases e
          exact ⟨v, vs, rfl, F, d, c, s, a, e1, fun bs hb => ⟨F, ds, c', s, b, e2, fun bs' hb' => by
            rw [← setAll_app]
            exact q _ (hb.app hb')⟩⟩
theorem fg_tup {es : List Expr} {kk : Nat} {pos : Pos} {gs : List Tgt} (h : FGs K X es gs) (hc : X.calm = true := by rfl) (hk : X.K = K := by rfl) (hn : (assignEach es X.env).length = gs.length := by rfl) (hst : (assignEach es X.env).findIdx? (·.1) = none := by rfl) : FG K X (.Tuple es kk pos) (tgT gs) := by
  subst hk
  refine PG.to (pg_tup hc h hn hst) fun v σ H Q ⟨F, d, as, s, hd, e, q⟩ => ?_
  unfold tgT at e
  split at e
  · obtain ⟨p, xs, rfl, h1, h2⟩ := hd.tupE
    exact ⟨p, xs, rfl, (Below.of s).sqt h1, by rw [h2.length, tgL_len e], F, _, as, s, h2, e, q⟩
  · cases e
end
/-! ### slots forgotten -/
def wipeD (ρ : VEnv) : List Nat → VEnv
  | [] => ρ
  | v :: vs => (wipeD ρ vs).set v none
theorem wipe_get (σ : St) (j : Nat) : ∀ vs : List Nat, (wipe σ vs)[j]? = if j ∈ vs then σ[j]?.map (fun _ => none) else σ[j]?
  | [] => by simp [wipe]
  | v :: vs => by
    unfold wipe
    rw [List.getElem?_set]
    by_cases h : v = j
    · subst h
      rw [if_pos rfl, if_pos List.mem_cons_self, wipe_length]
      by_cases hl : v < σ.length
      · rw [if_pos hl, List.getElem?_eq_getElem hl]; rfl
      · rw [if_neg hl, List.getElem?_eq_none (by omega)]; rfl
    · rw [if_neg h, wipe_get σ j vs]
      have : (j ∈ v :: vs) ↔ j ∈ vs := ⟨fun q => (List.mem_cons.mp q).elim (fun e => absurd e.symm h) id, List.mem_cons_of_mem _⟩
      by_cases hj : j ∈ vs
      · rw [if_pos hj, if_pos (this.mpr hj)]
      · rw [if_neg hj, if_neg fun q => hj (this.mp q)]
theorem wipeD_get (σ : VEnv) (j : Nat) : ∀ vs : List Nat, (wipeD σ vs)[j]? = if j ∈ vs then σ[j]?.map (fun _ => none) else σ[j]?
  | [] => by simp [wipeD]
  | v :: vs => by
    unfold wipeD
    have wl : ∀ vs : List Nat, (wipeD σ vs).length = σ.length := by
      intro vs
      induction vs with
      | nil => rfl
      | cons a r ih => unfold wipeD; rw [List.length_set, ih]
    rw [List.getElem?_set]
    by_cases h : v = j
    · subst h
      rw [if_pos rfl, if_pos List.mem_cons_self, wl]
      by_cases hl : v < σ.length
      · rw [if_pos hl, List.getElem?_eq_getElem hl]; rfl
      · rw [if_neg hl, List.getElem?_eq_none (by omega)]; rfl
    · rw [if_neg h, wipeD_get σ j vs]
      have : (j ∈ v :: vs) ↔ j ∈ vs := ⟨fun q => (List.mem_cons.mp q).elim (fun e => absurd e.symm h) id, List.mem_cons_of_mem _⟩
      by_cases hj : j ∈ vs
      · rw [if_pos hj, if_pos (this.mpr hj)]
      · rw [if_neg hj, if_neg fun q => hj (this.mp q)]
theorem wipe_set {σ : St} {i : Nat} {x : Option V} {vs : List Nat} (h : i ∈ vs) : wipe (σ.set i x) vs = wipe σ vs := by
  refine List.ext_getElem? fun j => ?_
  rw [wipe_get, wipe_get]
  by_cases hj : j ∈ vs
  · rw [if_pos hj, if_pos hj, List.getElem?_set]
    by_cases e : i = j
    · subst e
      rw [if_pos rfl]
      by_cases hl : i < σ.length
      · rw [if_pos hl, List.getElem?_eq_getElem hl]; rfl
      · rw [if_neg hl, List.getElem?_eq_none (by omega)]
    · rw [if_neg e]
  · rw [if_neg hj, if_neg hj, List.getElem?_set_ne fun e => hj (by rw [← e]; exact h)]
theorem wipe_wipe (σ : St) (vs : List Nat) : wipe (wipe σ vs) vs = wipe σ vs := by
  refine List.ext_getElem? fun j => ?_
  rw [wipe_get, wipe_get]
  by_cases hj : j ∈ vs
  · rw [if_pos hj, if_pos hj, Option.map_map]; rfl
  · rw [if_neg hj]
theorem wipe_setAll {vs : List Nat} : ∀ {bs : List (Nat × V)} {σ : St}, (∀ b ∈ bs, b.1 ∈ vs) → wipe (setAll σ bs) vs = wipe σ vs
  | [], _, _ => rfl
  | b :: bs, σ, h => by
    show wipe (setAll (σ.set b.1 (some b.2)) bs) vs = _
    rw [wipe_setAll fun x hx => h x (List.mem_cons_of_mem _ hx), wipe_set (h b List.mem_cons_self)]
section
variable {K : PySem.W.Frag} {xm : XMo} {X : Cx}
theorem wipeD_len (σ : VEnv) : ∀ vs : List Nat, (wipeD σ vs).length = σ.length
  | [] => rfl
  | a :: r => by unfold wipeD; rw [List.length_set, wipeD_len σ r]
theorem Vw.wipe {F : Hp} {σ : St} {ρ : VEnv} (h : Vw K F σ ρ) (vs : List Nat) : Vw K F (L2.wipe σ vs) (wipeD ρ vs) := ⟨by rw [wipe_length, wipeD_len, h.len], fun i d e => by
  rw [wipeD_get] at e
  by_cases hj : i ∈ vs
  · rw [if_pos hj] at e
    obtain ⟨a, h1, h2⟩ := Option.map_eq_some_iff.mp e
    cases h2
  · rw [if_neg hj] at e
    obtain ⟨v, h1, h2⟩ := h.get i d e
    exact ⟨v, by rw [wipe_get, if_neg hj]; exact h1, h2⟩⟩
theorem Vw.set {F : Hp} {σ : St} {ρ : VEnv} (h : Vw K F σ ρ) {i : Nat} {v : V} {d : D} (hd : Dt K F v d) : Vw K F (σ.set i (some v)) (ρ.set i (some d)) := ⟨by rw [List.length_set, List.length_set, h.len], fun j e he => by
  have hl := h.len
  rw [List.getElem?_set] at he
  by_cases q : i = j
  · subst q
    rw [if_pos rfl] at he
    by_cases hi : i < ρ.length
    · rw [if_pos hi] at he
      cases he
      exact ⟨v, by rw [List.getElem?_set, if_pos rfl, if_pos (by omega)], hd⟩
    · rw [if_neg hi] at he; cases he
  · rw [if_neg q] at he
    obtain ⟨w, h1, h2⟩ := h.get j e he
    exact ⟨w, by rw [List.getElem?_set_ne q]; exact h1, h2⟩⟩
theorem Vw.setAll {F : Hp} : ∀ {bs : List (Nat × V)} {as : List (Nat × D)} {σ : St} {ρ : VEnv}, Vw K F σ ρ → As K F bs as → Vw K F (Du.setAll σ bs) (setAllD ρ as)
  | _, _, _, _, h, .nil => h
  | _, _, σ, ρ, h, .cons (a := a) (b := b) x y => Vw.setAll (σ := σ.set a.1 (some a.2)) (ρ := ρ.set b.1 (some b.2)) (by
      rw [x.1]
      exact h.set x.2) y
theorem As.slots {F : Hp} {vs : List Nat} : ∀ {bs : List (Nat × V)} {as : List (Nat × D)}, As K F bs as → as.all (fun p => vs.contains p.1) = true → ∀ b ∈ bs, b.1 ∈ vs
  | _, _, .nil, _ => fun b hb => by cases hb
  | _, _, .cons x y, h => fun b hb => by
    rw [List.all_cons, Bool.and_eq_true] at h
    rcases List.mem_cons.mp hb with rfl | hb
    · rw [x.1]
      simpa using h.1
    · exact As.slots y h.2 b hb
theorem As.same {F G : Hp} (s : Same F G) : ∀ {bs : List (Nat × V)} {as : List (Nat × D)}, As K F bs as → As K G bs as
  | _, _, .nil => .nil
  | _, _, .cons x y => .cons ⟨x.1, x.2.same s⟩ (As.same s y)
/-! ### [e for x in xs if c] -/
def compL (tg : Tgt) (c : VEnv → Res Bool) (f : VEnv → Res D) (ρ : VEnv) (vs : List Nat) : List D → Res (List D)
  | [] => .ok []
  | d :: ds => (tg d).bind fun as => if as.all (fun p => vs.contains p.1) = true then (c (setAllD ρ as)).bind fun b => if b = true then (f (setAllD ρ as)).bind fun e => (compL tg c f ρ vs ds).bind fun es => .ok (e :: es) else compL tg c f ρ vs ds else .bad
def okOf {α : Type} : Res α → Res α
  | .ok a => .ok a
  | _ => .bad
def eComp (vs : List Nat) (it : VEnv → Res (List D)) (tg : Tgt) (c : VEnv → Res Bool) (f : VEnv → Res D) : VEnv → Res D := fun ρ => (it ρ).bind fun ds => if fit ds.length = true then (okOf (compL tg c f (wipeD ρ vs) vs ds)).bind fun es => .ok (.lst es) else .bad
def bYes : VEnv → Res Bool := fun _ => .ok true
abbrev FTs (K : PySem.W.Frag) (X : Cx) (ifs : List Expr) (c : VEnv → Res Bool) : Prop := PTs X ifs (bF K none c)
theorem PTs.to {e : List Expr} {t t' : TT} (h : PTs X e t) (m : ∀ σ H Q, t' σ H Q → t σ H Q) : PTs X e t' := ⟨fun pins s σ H Q I q => h.run pins s σ H Q I (m _ _ _ q)⟩
theorem fts_nil : FTs K X [] bYes := PTs.to pts_nil fun σ H Q ⟨F, ρ, sF, vw, k⟩ => k.done sF rfl
theorem fts_one {c : Expr} {f : VEnv → Res Bool} (h : FT K none X c f) : FTs K X [c] f := pts_one h
theorem comp_loop {J : It} {tg : Tgt} {c : VEnv → Res Bool} {f : VEnv → Res D} {ρ : VEnv} {vs : List Nat} {ds es : List D} {σ : St} {F H : Hp} {p : Addr} {Q : VK} (sF : Same F H) (vw : Vw K F σ ρ) (y : Yl K F J ds) (hp : H p = none) (hz : fit ds.length = true)
    (hc : compL tg c f (wipeD ρ vs) vs ds = .ok es) (k : ∀ F' H' acc, Gr F H F' H' → F' p = none → H' p = some (.lst acc) → DtAll K F' acc es → Q (.ref p) H') :
    ∃ W : Nat → Nat → Hp → Prop, (∃ m, W 0 m (upd H p (.lst []))) ∧ ∀ i m H, W i m H →
      (J.stop i H ∧ Q (.ref p) H) ∨ (J.go i H ∧ ∃ Nx : Hp → Prop, (∀ H', Nx H' → ∃ m', m' < m ∧ W (i + 1) m' H') ∧ ∀ x H', J.yld i H x H' → gF K tg x (wipe σ vs) H' fun σ2 H2 => wipe σ2 vs = wipe σ vs ∧ bF K none c σ2 H2 fun b H3 =>
        if b = true then tF K none f σ2 H3 fun y H4 => ∃ acc, H4 p = some (.lst acc) ∧ acc.length < sizeLine ∧ Nx (upd H4 p (.lst (acc ++ [y]))) else Nx H3) := by
  let St' : Nat → Hp → Prop := fun i H2 => ∃ F2 acc da rest, Gr F H F2 H2 ∧ F2 p = none ∧ H2 p = some (.lst acc) ∧ DtAll K F2 acc da ∧ acc.length ≤ i ∧ compL tg c f (wipeD ρ vs) vs (ds.drop i) = .ok rest ∧ da ++ rest = es
  refine ⟨fun i m H2 => m = ds.length - i ∧ i ≤ ds.length ∧ St' i H2, ⟨ds.length, by simp, Nat.zero_le _, F, [], [], es, .hid sF hp, sF.free hp, upd_same, .nil, Nat.le_refl _, hc, rfl⟩, ?_⟩
  rintro i m H2 ⟨rfl, hi, F2, acc, da, rest, g, fp, ep, dd, la, hr, he⟩
  by_cases hlt : i < ds.length
  · refine .inr ⟨y.go i H2 hlt (g.ff.trans g.fh), St' (i + 1), fun H' p' => ⟨ds.length - (i + 1), by omega, rfl, hlt, p'⟩, fun x H3 yx => ?_⟩
    obtain ⟨F3, g3, dx⟩ := y.yld i ds[i] F2 H2 x H3 (List.getElem?_eq_getElem hlt) g.ff g.fh yx
    rw [List.drop_eq_getElem_cons hlt] at hr
    unfold compL at hr
    cases e1 : tg ds[i] with
    | exc x => rw [e1] at hr; cases hr
    | bad => rw [e1] at hr; cases hr
    | ok as =>
      rw [e1, Res.bind_ok] at hr
      by_cases ha : as.all (fun p => vs.contains p.1) = true
      · rw [if_pos ha] at hr
        refine ⟨F3, ds[i], as, g3.fh, dx, e1, fun bs hb => ⟨?_, ?_⟩⟩
        · rw [wipe_setAll (hb.slots ha), wipe_wipe]
        · have vw3 : Vw K F3 (Du.setAll (wipe σ vs) bs) (setAllD (wipeD ρ vs) as) := Vw.setAll ((vw.wipe vs).same (g.ff.trans g3.ff)) hb
          have fp3 : F3 p = none := by
            cases q : F3 p with
            | none => rfl
            | some o =>
              rcases g3.nw p o q with z | z
              · rw [fp] at z; cases z
              · rw [ep] at z; cases z
          have ep3 := g3.hh _ _ ep
          have keep : ∀ {F4 H4 : Hp}, Gr F3 H3 F4 H4 → F4 p = none ∧ H4 p = some (.lst acc) ∧ DtAll K F4 acc da := fun {F4 H4} g4 => by
            refine ⟨?_, g4.hh _ _ ep3, dd.same (g3.ff.trans g4.ff)⟩
            cases q : F4 p with
            | none => rfl
            | some o =>
              rcases g4.nw p o q with z | z
              · rw [fp3] at z; cases z
              · rw [ep3] at z; cases z
          cases e2 : c (setAllD (wipeD ρ vs) as) with
          | exc x => rw [e2] at hr; cases hr
          | bad => rw [e2] at hr; cases hr
          | ok b =>
            rw [e2, Res.bind_ok] at hr
            refine ⟨F3, _, g3.fh, vw3, ?_⟩
            rw [e2]
            intro b' F4 H4 g4 hb'
            subst hb'
            cases b' with
            | false =>
              rw [if_neg Bool.false_ne_true] at hr
              obtain ⟨k1, k2, k3⟩ := keep g4
              exact iteF ⟨F4, acc, da, rest, (g.trans g3).trans g4, k1, k2, k3, by omega, hr, he⟩
            | true =>
              rw [if_pos rfl] at hr
              cases e3 : f (setAllD (wipeD ρ vs) as) with
              | exc x => rw [e3] at hr; cases hr
              | bad => rw [e3] at hr; cases hr
              | ok e =>
                rw [e3, Res.bind_ok] at hr
                cases e4 : compL tg c f (wipeD ρ vs) vs (ds.drop (i + 1)) with
                | exc x => rw [e4] at hr; cases hr
                | bad => rw [e4] at hr; cases hr
                | ok r =>
                  rw [e4] at hr
                  cases hr
                  refine iteT ⟨F4, _, g4.fh, vw3.same g4.ff, ?_⟩
                  rw [e3]
                  intro v F5 H5 g5 dv
                  obtain ⟨k1, k2, k3⟩ := keep (g4.trans g5)
                  have lz : acc.length < sizeLine := Nat.lt_of_lt_of_le (by omega) (Nat.le_of_lt (fit_line hz))
                  have s5 : Same F5 (upd H5 p (.lst (acc ++ [v]))) := fun b o hb => by
                    rw [upd_ne fun z => by rw [z, k1] at hb; cases hb]
                    exact g5.fh _ _ hb
                  have gt := ((g.trans g3).trans g4).trans g5
                  refine ⟨acc, k2, lz, F5, acc ++ [v], da ++ [e], r, ⟨fun b o hb => ?_, gt.ff, s5, gt.nw⟩, k1, upd_same, k3.app (.cons dv .nil), by rw [List.length_append, List.length_singleton]; omega, e4, by rw [List.append_assoc]; exact he⟩
                  rw [upd_ne fun z => by rw [z, hp] at hb; cases hb]
                  exact gt.hh _ _ hb
      · rw [if_neg ha] at hr; cases hr
  · have e : i = ds.length := by omega
    subst e
    rw [List.drop_length] at hr
    cases hr
    rw [List.append_nil] at he
    subst he
    exact .inl ⟨y.stop H2 (g.ff.trans g.fh), k F2 H2 acc g fp ep dd⟩
/-- a new thing is frozen -/
theorem Gr.freeze {F H F' H' : Hp} {p : Addr} {o : HO} (g : Gr F H F' H') (hp : H p = none) (fp : F' p = none) (e : H' p = some o) : Gr F H (upd F' p o) H' := ⟨g.hh, fun b u hb => by
    rw [upd_ne fun z => by
      have z2 := g.ff _ _ hb
      rw [z, fp] at z2; cases z2]
    exact g.ff _ _ hb, fun b u hb => by
    by_cases z : b = p
    · subst z
      rw [upd_same] at hb
      cases hb
      exact e
    · rw [upd_ne z] at hb
      exact g.fh _ _ hb, fun b u hb => by
    by_cases z : b = p
    · subst z
      exact .inr hp
    · rw [upd_ne z] at hb
      exact g.nw _ _ hb⟩
theorem fe_comp {elt tg iter : Expr} {ifs : List Expr} {scope : Scope} {pos : Pos} (own : List (Str × Nat)) {it : VEnv → Res (List D)} {g : Tgt} {c : VEnv → Res Bool} {f : VEnv → Res D} (hN : X.N.Nodup) (hi : FI K xm X tg iter it)
    (hg : ∀ (s : Shared) (H : Hp) (C : Addr) (cl : List (Str × Addr)) (fp : List Addr), FG K (X.blk s H scope (compEnvC scope cl C X.env) fp) tg g) (ht : ∀ (s : Shared) (H : Hp) (C : Addr) (cl : List (Str × Addr)) (fp : List Addr), FTs K (X.blk s H scope (compEnvC scope cl C X.env) fp) ifs c)
    (he : ∀ (s : Shared) (H : Hp) (C : Addr) (cl : List (Str × Addr)) (fp : List Addr), FE K none (X.blk s H scope (compEnvC scope cl C X.env) fp) elt f)
    (ok : BlkOk X.N X.env.scope scope own) (hc : X.calm = true := by rfl) (hs : ∀ x, foldedSetIterable iter X.env x = pure x := by intro _; rfl) :
    FE K xm X (.ListComp elt [⟨tg, iter, ifs, 0⟩] scope pos) (eComp (own.map (·.2)) it g c f) :=
  PE.to (pe_lc hc hN hi ok hg ht he hs) fun σ H Q ⟨F, ρ, sF, vw, k⟩ => ⟨F, ρ, sF, vw, Po.seq k fun ds J F1 H1 g1 y k1 p hp => by
    obtain ⟨hz, k2⟩ := Po.ite k1
    cases e : compL g c f (wipeD ρ (own.map (·.2))) (own.map (·.2)) ds with
    | exc x => rw [e] at k2; exact k2.elim
    | bad => rw [e] at k2; exact k2.elim
    | ok es =>
      rw [e] at k2
      exact comp_loop g1.fh (vw.same g1.ff) y hp hz e fun F' H' acc g fp ep dd => k2 _ (upd F' p (.lst acc)) H' (g.freeze hp fp ep) (.lst upd_same (dd.same (sm_upd fp)))⟩
end
end Du

namespace Du
open PySem PySem.Spec PyProof.Rows L2
/-! ### slots at statements: what a def made itself and nobody else holds is its own (it may be changed), all else is frozen -/
inductive Slot where
  | frz (d : D)
  | own (t : Bool) (d : D)
abbrev Env := List (Option Slot)
def viewS (b : Bool) : Option Slot → Option D
  | some (.frz d) => some d
  | some (.own _ d) => if b = true then some d else none
  | none => none
def viewI (L : List Nat) : Nat → Env → VEnv
  | _, [] => []
  | i, s :: r => viewS (L.contains i) s :: viewI L (i + 1) r
/-- the slots as an expression sees them that reads the own ones of L -/
def view (L : List Nat) (ρ : Env) : VEnv := viewI L 0 ρ
def shutS (b : Bool) : Option Slot → Option Slot
  | some (.own t d) => if b = true then some (.frz d) else some (.own t d)
  | s => s
def shutI (L : List Nat) : Nat → Env → Env
  | _, [] => []
  | i, s :: r => shutS (L.contains i) s :: shutI L (i + 1) r
/-- the own ones of L are frozen from now on -/
def shut (L : List Nat) (ρ : Env) : Env := shutI L 0 ρ
theorem viewI_get (L : List Nat) : ∀ (n : Nat) (ρ : Env) (i : Nat), (viewI L n ρ)[i]? = (ρ[i]?).map (viewS (L.contains (n + i)))
  | n, [], i => by simp [viewI]
  | n, s :: r, 0 => by simp [viewI]
  | n, s :: r, i + 1 => by
    rw [viewI, List.getElem?_cons_succ, List.getElem?_cons_succ, viewI_get L (n + 1) r i]
    congr 3
    omega
theorem shutI_get (L : List Nat) : ∀ (n : Nat) (ρ : Env) (i : Nat), (shutI L n ρ)[i]? = (ρ[i]?).map (shutS (L.contains (n + i)))
  | n, [], i => by simp [shutI]
  | n, s :: r, 0 => by simp [shutI]
  | n, s :: r, i + 1 => by
    rw [shutI, List.getElem?_cons_succ, List.getElem?_cons_succ, shutI_get L (n + 1) r i]
    congr 3
    omega
theorem viewI_len (L : List Nat) : ∀ (n : Nat) (ρ : Env), (viewI L n ρ).length = ρ.length
  | _, [] => rfl
  | n, s :: r => by rw [viewI, List.length_cons, viewI_len L (n + 1) r, List.length_cons]
theorem shutI_len (L : List Nat) : ∀ (n : Nat) (ρ : Env), (shutI L n ρ).length = ρ.length
  | _, [] => rfl
  | n, s :: r => by rw [shutI, List.length_cons, shutI_len L (n + 1) r, List.length_cons]
theorem view_get (L : List Nat) (ρ : Env) (i : Nat) : (view L ρ)[i]? = (ρ[i]?).map (viewS (L.contains i)) := by
  unfold view
  rw [viewI_get, Nat.zero_add]
theorem shut_get (L : List Nat) (ρ : Env) (i : Nat) : (shut L ρ)[i]? = (ρ[i]?).map (shutS (L.contains i)) := by
  unfold shut
  rw [shutI_get, Nat.zero_add]
/-- an own thing at p -/
def Ow (K : PySem.W.Frag) (F H : Hp) (p : Addr) : D → Prop
  | .lst ds => ∃ xs, H p = some (.lst xs) ∧ DtAll K F xs ds
  | .dct false ds => ∃ kvs, H p = some (.dK kvs) ∧ DtAll K F (kvs.map (·.2)) (ds.map (·.2)) ∧ ds.map (·.1) = kvs.map (fun p => keyD p.1)
  | .dct true ds => ∃ kvs, H p = some (.dT kvs) ∧ DtAll K F (kvs.map (·.2)) (ds.map (·.2)) ∧ ds.map (·.1) = kvs.map (fun p => keysD p.1)
  | _ => False
/-- what has to stay: all of b; of b only what g has may be told of; pin: where the thing stands that was handed in to be changed -/
structure Bs where
  b : Hp
  g : Hp
  pin : Addr := 0
structure Rl (K : PySem.W.Frag) (B : Bs) (σ : St) (H : Hp) (ρ : Env) (F : Hp) : Prop where
  fh : Same F H
  bh : Same B.b H
  zf : ∀ a o u, B.b a = some o → F a = some u → ∃ v, B.g a = some v
  len : σ.length = ρ.length
  fz : ∀ (i : Nat) (d : D), ρ[i]? = some (some (.frz d)) → ∃ v, σ[i]? = some (some v) ∧ Dt K F v d
  ow : ∀ (i : Nat) (t : Bool) (d : D), ρ[i]? = some (some (.own t d)) → ∃ p, σ[i]? = some (some (.ref p)) ∧ F p = none ∧ B.b p = none ∧ Ow K F H p d
  dj : ∀ (i j : Nat) (t u : Bool) (d e : D) (p : Addr), ρ[i]? = some (some (.own t d)) → ρ[j]? = some (some (.own u e)) → σ[i]? = some (some (.ref p)) → σ[j]? = some (some (.ref p)) → i = j
  pn : ∀ (i : Nat) (d : D) (p : Addr), ρ[i]? = some (some (.own true d)) → σ[i]? = some (some (.ref p)) → p = B.pin
section
variable {K : PySem.W.Frag} {B : Bs} {F H : Hp} {σ : St} {ρ : Env}
theorem Ow.mono {F' H' : Hp} {p : Addr} {d : D} (h : Ow K F H p d) (s : Same F F') (e : ∀ o, H p = some o → H' p = some o) : Ow K F' H' p d := by
  unfold Ow at h ⊢
  split at h
  · obtain ⟨xs, h1, h2⟩ := h
    exact ⟨xs, e _ h1, h2.same s⟩
  · obtain ⟨kvs, h1, h2, h3⟩ := h
    exact ⟨kvs, e _ h1, h2.same s, h3⟩
  · obtain ⟨kvs, h1, h2, h3⟩ := h
    exact ⟨kvs, e _ h1, h2.same s, h3⟩
  · exact h.elim
theorem Ow.some {p : Addr} {d : D} (h : Ow K F H p d) : ∃ o, H p = Option.some o := by
  unfold Ow at h
  split at h
  · obtain ⟨xs, h1, h2⟩ := h
    exact ⟨_, h1⟩
  · obtain ⟨kvs, h1, h2, h3⟩ := h
    exact ⟨_, h1⟩
  · obtain ⟨kvs, h1, h2, h3⟩ := h
    exact ⟨_, h1⟩
  · exact h.elim
theorem Ow.notup {p : Addr} {d : D} (h : Ow K F H p d) (xs : List V) : H p ≠ Option.some (.tup xs) ∧ ∀ o, H p ≠ Option.some (.frz o (.tup xs)) := by
  unfold Ow at h
  split at h
  · obtain ⟨ys, h1, h2⟩ := h
    exact ⟨fun e => (by rw [h1] at e; cases e), fun o e => (by rw [h1] at e; cases e)⟩
  · obtain ⟨kvs, h1, h2, h3⟩ := h
    exact ⟨fun e => (by rw [h1] at e; cases e), fun o e => (by rw [h1] at e; cases e)⟩
  · obtain ⟨kvs, h1, h2, h3⟩ := h
    exact ⟨fun e => (by rw [h1] at e; cases e), fun o e => (by rw [h1] at e; cases e)⟩
  · exact h.elim
/-- it is frozen: told of -/
theorem Ow.dt {G : Hp} {p : Addr} {d : D} (h : Ow K F H p d) (s : Same F G) (e : ∀ o, H p = Option.some o → G p = Option.some o) : Dt K G (.ref p) d := by
  unfold Ow at h
  split at h
  · obtain ⟨xs, h1, h2⟩ := h
    exact .lst (e _ h1) (h2.same s)
  · obtain ⟨kvs, h1, h2, h3⟩ := h
    exact .dk (.inl (e _ h1)) (h2.same s) h3
  · obtain ⟨kvs, h1, h2, h3⟩ := h
    exact .dt (e _ h1) (h2.same s) h3
  · exact h.elim
/-- a is the cell of an own slot of L -/
def Cell (σ : St) (ρ : Env) (L : List Nat) (a : Addr) : Prop := ∃ (i : Nat) (t : Bool) (d : D), i ∈ L ∧ ρ[i]? = some (some (.own t d)) ∧ σ[i]? = some (some (.ref a))
open Classical in
/-- what an expression sees that reads the own ones of L -/
noncomputable def lend (σ : St) (ρ : Env) (L : List Nat) (F H : Hp) : Hp := fun a => if Cell σ ρ L a then H a else F a
open Classical in
noncomputable def unlend (σ : St) (ρ : Env) (L : List Nat) (F : Hp) : Hp := fun a => if Cell σ ρ L a then none else F a
theorem Rl.lend_fh (r : Rl K B σ H ρ F) (L : List Nat) : Same (lend σ ρ L F H) H := fun a o e => by
  unfold lend at e
  split at e
  · exact e
  · exact r.fh _ _ e
theorem Rl.lend_ff (r : Rl K B σ H ρ F) (L : List Nat) : Same F (lend σ ρ L F H) := fun a o e => by
  unfold lend
  split
  · exact r.fh _ _ e
  · exact e
theorem Rl.view (r : Rl K B σ H ρ F) (L : List Nat) : Vw K (lend σ ρ L F H) σ (view L ρ) := ⟨by
  unfold Du.view
  rw [viewI_len, r.len], fun i d e => by
  rw [view_get] at e
  obtain ⟨s, h1, h2⟩ := Option.map_eq_some_iff.mp e
  cases s with
  | none => cases h2
  | some s =>
    cases s with
    | frz e =>
      cases h2
      obtain ⟨v, q1, q2⟩ := r.fz i _ h1
      exact ⟨v, q1, q2.same (r.lend_ff L)⟩
    | own t e =>
      unfold viewS at h2
      dsimp only at h2
      by_cases c : L.contains i = true
      · rw [if_pos c] at h2
        cases h2
        obtain ⟨p, q1, q2, q3, q4⟩ := r.ow i _ _ h1
        refine ⟨_, q1, q4.dt (r.lend_ff L) fun o ho => ?_⟩
        have : Cell σ ρ L p := ⟨i, _, _, by simpa using c, h1, q1⟩
        unfold lend
        rw [if_pos this]
        exact ho
      · rw [if_neg c] at h2
        cases h2⟩
theorem Rl.own_new (r : Rl K B σ H ρ F) {L : List Nat} {F' H' : Hp} (g : Gr (lend σ ρ L F H) H F' H') {i : Nat} {t : Bool} {d : D} {p : Addr} (hi : ρ[i]? = some (some (.own t d))) (hp : σ[i]? = some (some (.ref p))) (hL : i ∉ L) : F' p = none := by
  obtain ⟨p', q1, q2, q3, q4⟩ := r.ow i _ _ hi
  rw [hp] at q1
  cases q1
  cases e : F' p with
  | none => rfl
  | some o =>
    exfalso
    rcases g.nw p o e with z | z
    · unfold lend at z
      split at z
      · rename_i c
        obtain ⟨j, t', d', hj, h1, h2⟩ := c
        exact hL (r.dj i j _ _ _ _ p hi h1 hp h2 ▸ hj)
      · rw [q2] at z; cases z
    · obtain ⟨o', h⟩ := q4.some
      rw [h] at z; cases z
theorem Rl.zf2 (r : Rl K B σ H ρ F) {L : List Nat} {F' H' : Hp} (g : Gr (lend σ ρ L F H) H F' H') {a : Addr} {o u : HO} (e1 : B.b a = some o) (e2 : F' a = some u) : ∃ v, B.g a = some v := by
  rcases g.nw _ _ e2 with z | z
  · unfold lend at z
    split at z
    · rename_i c
      obtain ⟨i, t, d, _, h1, h2⟩ := c
      obtain ⟨p, q1, _, q3, _⟩ := r.ow i _ d h1
      rw [h2] at q1
      cases q1
      rw [q3] at e1
      cases e1
    · exact r.zf _ _ _ e1 z
  · rw [r.bh _ _ e1] at z
    cases z
theorem Rl.back_ff (r : Rl K B σ H ρ F) {L : List Nat} {F' H' : Hp} (g : Gr (lend σ ρ L F H) H F' H') : Same F (unlend σ ρ L F') := fun a o e => by
  unfold unlend
  rw [if_neg ?_]
  · exact g.ff _ _ (r.lend_ff L _ _ e)
  · rintro ⟨i, t, d, _, h1, h2⟩
    obtain ⟨p, q1, q2, _⟩ := r.ow i _ d h1
    rw [h2] at q1
    cases q1
    rw [q2] at e
    cases e
/-- behind an expression whose value holds no list: all is as it was -/
theorem Rl.back (r : Rl K B σ H ρ F) {L : List Nat} {F' H' : Hp} (g : Gr (lend σ ρ L F H) H F' H') : Rl K B σ H' ρ (unlend σ ρ L F') := by
  have ff := r.back_ff g
  refine ⟨fun a o e => ?_, r.bh.trans g.hh, fun a o u e1 e2 => ?_, r.len, fun i d e => ?_, fun i t d e => ?_, r.dj, r.pn⟩
  · unfold unlend at e
    split at e
    · cases e
    · exact g.fh _ _ e
  · unfold unlend at e2
    split at e2
    · cases e2
    · exact r.zf2 g e1 e2
  · obtain ⟨v, h1, h2⟩ := r.fz i d e
    exact ⟨v, h1, h2.same ff⟩
  · obtain ⟨p, q1, q2, q3, q4⟩ := r.ow i _ d e
    refine ⟨p, q1, ?_, q3, q4.mono ff fun o ho => g.hh _ _ ho⟩
    unfold unlend
    by_cases c : Cell σ ρ L p
    · rw [if_pos c]
    · rw [if_neg c]
      exact r.own_new g e q1 fun hL => c ⟨i, t, d, hL, e, q1⟩
theorem Rl.back_dts (r : Rl K B σ H ρ F) {L : List Nat} {F' H' : Hp} (g : Gr (lend σ ρ L F H) H F' H') : Tups F' (unlend σ ρ L F') := fun a xs hr => by
  have nc : ¬ Cell σ ρ L a := by
    rintro ⟨j, t, e, _, h1, h2⟩
    obtain ⟨p, q1, _, _, q4⟩ := r.ow j _ e h1
    rw [h2] at q1
    cases q1
    obtain ⟨n1, n2⟩ := Ow.notup (q4.mono (F' := F) (H' := H') (.refl _) fun o ho => g.hh _ _ ho) xs
    exact n1 (g.fh _ _ hr)
  have e : unlend σ ρ L F' a = F' a := by
    unfold unlend
    rw [if_neg nc]
  exact e.trans hr
theorem Rl.back_dt (r : Rl K B σ H ρ F) {L : List Nat} {F' H' : Hp} (g : Gr (lend σ ρ L F H) H F' H') {v : V} {d : D} (i : imm d = true) (h : Dt K F' v d) : Dt K (unlend σ ρ L F') v d := Dt.tups (r.back_dts g) i h
/-- behind an expression whose value may hold the own ones of L: they are frozen -/
theorem Rl.shutted (r : Rl K B σ H ρ F) {L : List Nat} {F' H' : Hp} (g : Gr (lend σ ρ L F H) H F' H') : Rl K B σ H' (shut L ρ) F' := by
  have ff : Same F F' := (r.lend_ff L).trans g.ff
  have old : ∀ {i : Nat} {t : Bool} {d : D}, (shut L ρ)[i]? = some (some (.own t d)) → ρ[i]? = some (some (.own t d)) ∧ i ∉ L := fun {i t d} e => by
    rw [shut_get] at e
    obtain ⟨s, h1, h2⟩ := Option.map_eq_some_iff.mp e
    cases s with
    | none => cases h2
    | some s =>
      cases s with
      | frz e => cases h2
      | own t e =>
        unfold shutS at h2
        dsimp only at h2
        by_cases c : L.contains i = true
        · rw [if_pos c] at h2; cases h2
        · rw [if_neg c] at h2
          cases h2
          exact ⟨h1, fun z => c (by simpa using z)⟩
  refine ⟨g.fh, r.bh.trans g.hh, fun a o u e1 e2 => r.zf2 g e1 e2, by unfold shut; rw [shutI_len, r.len], fun i d e => ?_, fun i t d e => ?_, fun i j t u d e p h1 h2 => r.dj i j t u d e p (old h1).1 (old h2).1, fun i d p h => r.pn i d p (old h).1⟩
  · rw [shut_get] at e
    obtain ⟨s, h1, h2⟩ := Option.map_eq_some_iff.mp e
    cases s with
    | none => cases h2
    | some s =>
      cases s with
      | frz e =>
        cases h2
        obtain ⟨v, q1, q2⟩ := r.fz i _ h1
        exact ⟨v, q1, q2.same ff⟩
      | own t e =>
        unfold shutS at h2
        dsimp only at h2
        by_cases c : L.contains i = true
        · rw [if_pos c] at h2
          cases h2
          obtain ⟨p, q1, q2, q3, q4⟩ := r.ow i _ _ h1
          refine ⟨_, q1, q4.dt ff fun o ho => g.ff _ _ ?_⟩
          have : Cell σ ρ L p := ⟨i, _, _, by simpa using c, h1, q1⟩
          unfold lend
          rw [if_pos this]
          exact ho
        · rw [if_neg c] at h2; cases h2
  · obtain ⟨h1, h2⟩ := old e
    obtain ⟨p, q1, q2, q3, q4⟩ := r.ow i _ d h1
    exact ⟨p, q1, r.own_new g h1 q1 h2, q3, q4.mono ff fun o ho => g.hh _ _ ho⟩
/-- the slots behind an expression that gave d -/
def aft (L : List Nat) (d : D) (ρ : Env) : Env := if imm d = true then ρ else shut L ρ
theorem Rl.aft (r : Rl K B σ H ρ F) {L : List Nat} {F' H' : Hp} (g : Gr (lend σ ρ L F H) H F' H') {v : V} {d : D} (h : Dt K F' v d) : ∃ F2, Rl K B σ H' (aft L d ρ) F2 ∧ Dt K F2 v d ∧ Same F F2 := by
  unfold Du.aft
  by_cases i : imm d = true
  · rw [if_pos i]
    exact ⟨_, r.back g, r.back_dt g i h, r.back_ff g⟩
  · rw [if_neg i]
    exact ⟨_, r.shutted g, h, (r.lend_ff L).trans g.ff⟩
/-- the slots behind an expression whose value is taken apart: ds are its parts -/
def aftL (L : List Nat) (ds : List D) (ρ : Env) : Env := if imms ds = true then ρ else shut L ρ
theorem Rl.aftL (r : Rl K B σ H ρ F) {L : List Nat} {F' H' : Hp} (g : Gr (lend σ ρ L F H) H F' H') {vs : List V} {ds : List D} (h : DtAll K F' vs ds) : ∃ F2, Rl K B σ H' (aftL L ds ρ) F2 ∧ DtAll K F2 vs ds ∧ Same F F2 ∧ ∀ p, F' p = none → F2 p = none := by
  unfold Du.aftL
  by_cases i : imms ds = true
  · rw [if_pos i]
    refine ⟨_, r.back g, DtAll.tups (r.back_dts g) i h, r.back_ff g, fun p hp => ?_⟩
    unfold unlend
    split
    · rfl
    · exact hp
  · rw [if_neg i]
    exact ⟨_, r.shutted g, h, (r.lend_ff L).trans g.ff, fun _ h => h⟩
end
/-! ### what a statement comes to -/
inductive Out where
  | nx (ρ : Env)
  | bk (ρ : Env)
  | ct (ρ : Env)
  | rt (d : D) (ρ : Env)
  | ro (d : D) (ρ : Env)
  | ex (x : Ex) (ρ : Env)
  | bad
def So (K : PySem.W.Frag) (xm : XMo) (B : Bs) (Dn : Ends) : Out → Prop
  | .nx ρ => ∀ σ H F, Rl K B σ H ρ F → Dn.nx σ H
  | .bk ρ => ∀ σ H F, Rl K B σ H ρ F → Dn.bk σ H
  | .ct ρ => ∀ σ H F, Rl K B σ H ρ F → Dn.ct σ H
  | .rt d ρ => ∀ v σ H F, Rl K B σ H ρ F → Dt K F v d → Dn.rt v H
  | .ro d ρ => ∀ p σ H F, Rl K B σ H ρ F → F p = none → B.b p = none → Ow K F H p d → Dn.rt (.ref p) H
  | .ex x ρ => match xm with
    | none => False
    | some m => ∀ C dd σ H F, Rl K B σ H ρ F → ExIs K m.mg x F C dd → m.W C dd σ H
  | .bad => False
def sF (K : PySem.W.Frag) (xm : XMo) (g : Env → Out) : TS := fun Dn σ H => ∃ B ρ F, Rl K B σ H ρ F ∧ So K xm B Dn (g ρ)
abbrev FS (K : PySem.W.Frag) (xm : XMo) (X : Cx) (st : Stmt) (g : Env → Out) : Prop := PS X st (sF K xm g)
abbrev FSs (K : PySem.W.Frag) (xm : XMo) (X : Cx) (st : List Stmt) (g : Env → Out) : Prop := PSs X st (sF K xm g)
/-- a pure expression at a statement: its value, and the slots behind it -/
def eAt {α : Type} (L : List Nat) (f : VEnv → Res α) (ρ : Env) (k : α → Out) : Out := match f (view L ρ) with
  | .ok a => k a
  | .exc x => .ex x (shut L ρ)
  | .bad => .bad
section
variable {K : PySem.W.Frag} {xm : XMo} {X : Cx} {B : Bs} {F H : Hp} {σ : St} {ρ : Env} {Dn : Ends}
theorem exc_at {L : List Nat} {x : Ex} (r : Rl K B σ H ρ F) (k : So K xm B Dn (.ex x (shut L ρ))) : Xw K xm σ (lend σ ρ L F H) H x := by
  cases xm with
  | none => exact k.elim
  | some m => exact fun C dd F' H' g e => k C dd σ H' F' (r.shutted g) e
theorem tF.at {L : List Nat} {f : VEnv → Res D} {k : D → Out} {Q : VK} (r : Rl K B σ H ρ F) (h : So K xm B Dn (eAt L f ρ k)) (n : ∀ d v H' F', f (view L ρ) = .ok d → Rl K B σ H' (aft L d ρ) F' → Dt K F' v d → Same F F' → Same H H' → So K xm B Dn (k d) → Q v H') : tF K xm f σ H Q := by
  refine ⟨_, _, r.lend_fh L, r.view L, ?_⟩
  unfold eAt at h
  cases e : f (view L ρ) with
  | ok d =>
    rw [e] at h
    intro v F' H' g hd
    obtain ⟨F2, r2, h2, h3⟩ := r.aft g hd
    exact n d v H' F2 e r2 h2 h3 g.hh h
  | exc x =>
    rw [e] at h
    exact exc_at r h
  | bad => rw [e] at h; exact h.elim
theorem bF.at {L : List Nat} {f : VEnv → Res Bool} {k : Bool → Out} {Q : Bool → Hp → Prop} (r : Rl K B σ H ρ F) (h : So K xm B Dn (eAt L f ρ k)) (n : ∀ b H' F', f (view L ρ) = .ok b → Rl K B σ H' ρ F' → So K xm B Dn (k b) → Q b H') : bF K xm f σ H Q := by
  refine ⟨_, _, r.lend_fh L, r.view L, ?_⟩
  unfold eAt at h
  cases e : f (view L ρ) with
  | ok d =>
    rw [e] at h
    intro v F' H' g hd
    subst hd
    exact n v H' _ e (r.back g) h
  | exc x =>
    rw [e] at h
    exact exc_at r h
  | bad => rw [e] at h; exact h.elim
end
end Du

namespace Du
open PySem PySem.Spec PyProof.Rows L2
section
variable {K : PySem.W.Frag} {xm : XMo} {X : Cx} {B B' : Bs} {F H : Hp} {σ : St} {ρ : Env} {Dn : Ends}
structure Bs.Le (B B' : Bs) : Prop where
  b : Same B.b B'.b
  g : ∀ a o u, B.b a = some o → B'.g a = some u → ∃ v, B.g a = some v
  pin : B'.pin = B.pin
theorem Bs.Le.refl (B : Bs) : B.Le B := ⟨.refl _, fun _ _ _ _ e => ⟨_, e⟩, rfl⟩
theorem Rl.unbase (r : Rl K B' σ H ρ F) (s : B.Le B') : Rl K B σ H ρ F := ⟨r.fh, s.b.trans r.bh, fun a o u e1 e2 => by
  obtain ⟨v, h⟩ := r.zf a o u (s.b _ _ e1) e2
  exact s.g a o v e1 h, r.len, r.fz, fun i t d e => by
  obtain ⟨p, q1, q2, q3, q4⟩ := r.ow i _ d e
  exact ⟨p, q1, q2, s.b.free q3, q4⟩, r.dj, fun i d p h1 h2 => (r.pn i d p h1 h2).trans s.pin⟩
theorem So.weak {o : Out} (h : So K xm B Dn o) (s : B.Le B') : So K xm B' Dn o := by
  cases o with
  | nx ρ => exact fun σ H F r => h σ H F (r.unbase s)
  | bk ρ => exact fun σ H F r => h σ H F (r.unbase s)
  | ct ρ => exact fun σ H F r => h σ H F (r.unbase s)
  | rt d ρ => exact fun v σ H F r => h v σ H F (r.unbase s)
  | ro d ρ => exact fun p σ H F r f b => h p σ H F (r.unbase s) f (s.b.free b)
  | ex x ρ =>
    cases xm with
    | none => exact h
    | some m => exact fun C dd σ H F r => h C dd σ H F (r.unbase s)
  | bad => exact h
/-- both of two parts of a heap -/
def both (F G : Hp) : Hp := fun a => match F a with | some o => some o | none => G a
theorem both_l {F G : Hp} : Same F (both F G) := fun a o e => by
  show (match F a with | some o => some o | none => G a) = some o
  rw [e]
theorem both_r {F G H : Hp} (s : Same F H) (t : Same G H) : Same G (both F G) := fun a o e => by
  show (match F a with | some o => some o | none => G a) = some o
  cases q : F a with
  | none => exact e
  | some u => exact (s _ _ q).symm.trans (t _ _ e)
theorem both_in {F G H : Hp} (s : Same F H) (t : Same G H) : Same (both F G) H := fun a o e => by
  have e : (match F a with | some o => some o | none => G a) = some o := e
  cases q : F a with
  | none =>
    rw [q] at e
    exact t _ _ e
  | some u =>
    rw [q] at e
    cases e
    exact s _ _ q
theorem both_cases {F G : Hp} {a : Addr} {o : HO} (e : both F G a = some o) : F a = some o ∨ G a = some o := by
  have e : (match F a with | some o => some o | none => G a) = some o := e
  cases q : F a with
  | none => rw [q] at e; exact .inr e
  | some u => rw [q] at e; cases e; exact .inl rfl
theorem both_none {F G : Hp} {a : Addr} (e : F a = none) (e2 : G a = none) : both F G a = none := by
  show (match F a with | some o => some o | none => G a) = none
  rw [e]
  exact e2
/-- what is frozen is kept, too -/
theorem Rl.base (r : Rl K B σ H ρ F) : ∃ B' : Bs, B.Le B' ∧ Same F B'.b ∧ Same F B'.g ∧ Rl K B' σ H ρ F := by
  refine ⟨⟨both F B.b, both F B.g, B.pin⟩, ⟨both_r r.fh r.bh, fun a o u e1 e2 => ?_, rfl⟩, both_l, both_l, r.fh, both_in r.fh r.bh, fun a o u e1 e2 => ⟨u, both_l _ _ e2⟩, r.len, r.fz, fun i t d e => ?_, r.dj, r.pn⟩
  · rcases both_cases e2 with z | z
    · exact r.zf _ _ _ e1 z
    · exact ⟨_, z⟩
  · obtain ⟨p, q1, q2, q3, q4⟩ := r.ow i _ d e
    exact ⟨p, q1, q2, both_none q2 q3, q4⟩
theorem Rl.grow {F' H' : Hp} (r : Rl K B σ H ρ F) (g : Gr F H F' H') : Rl K B σ H' ρ F' := ⟨g.fh, r.bh.trans g.hh, fun a o u e1 e2 => by
  exact (g.nw _ _ e2).elim (fun z => r.zf _ _ _ e1 z) (fun z => by rw [r.bh _ _ e1] at z; cases z), r.len, fun i d e => by
  obtain ⟨v, h1, h2⟩ := r.fz i d e
  exact ⟨v, h1, h2.same g.ff⟩, fun i t d e => by
  obtain ⟨p, q1, q2, q3, q4⟩ := r.ow i _ d e
  refine ⟨p, q1, ?_, q3, q4.mono g.ff fun o ho => g.hh _ _ ho⟩
  cases q : F' p with
  | none => rfl
  | some o =>
    exfalso
    exact (g.nw p o q).elim (fun z => by rw [q2] at z; cases z) (fun z => by
      obtain ⟨o', h⟩ := q4.some
      rw [h] at z; cases z), r.dj, r.pn⟩
theorem set_cases {α : Type} {l : List α} {i j : Nat} {a b : α} (h : (l.set i a)[j]? = some b) : (i = j ∧ b = a ∧ i < l.length) ∨ (i ≠ j ∧ l[j]? = some b) := by
  rw [List.getElem?_set] at h
  by_cases q : i = j
  · rw [if_pos q] at h
    subst q
    by_cases hi : i < l.length
    · rw [if_pos hi] at h
      cases h
      exact .inl ⟨rfl, rfl, hi⟩
    · rw [if_neg hi] at h; cases h
  · rw [if_neg q] at h
    exact .inr ⟨q, h⟩
theorem Rl.set (r : Rl K B σ H ρ F) {i : Nat} {v : V} {d : D} (h : Dt K F v d) : Rl K B (σ.set i (some v)) H (ρ.set i (some (.frz d))) F := ⟨r.fh, r.bh, r.zf, by rw [List.length_set, List.length_set, r.len], fun j e he => by
  rcases set_cases he with ⟨rfl, q, hi⟩ | ⟨hj, q⟩
  · cases q
    exact ⟨v, by rw [List.getElem?_set, if_pos rfl, if_pos (by rw [r.len]; exact hi)], h⟩
  · obtain ⟨w, h1, h2⟩ := r.fz j e q
    exact ⟨w, by rw [List.getElem?_set_ne hj]; exact h1, h2⟩, fun j t e he => by
  rcases set_cases he with ⟨rfl, q, hi⟩ | ⟨hj, q⟩
  · cases q
  · obtain ⟨p, q1, q2, q3, q4⟩ := r.ow j _ e q
    exact ⟨p, by rw [List.getElem?_set_ne hj]; exact q1, q2, q3, q4⟩, fun j k t u d1 d2 p h1 h2 h3 h4 => by
  rcases set_cases h1 with ⟨rfl, q, hi⟩ | ⟨hj, q⟩
  · cases q
  · rcases set_cases h2 with ⟨rfl, q', hi⟩ | ⟨hj', q'⟩
    · cases q'
    · rw [List.getElem?_set_ne hj] at h3
      rw [List.getElem?_set_ne hj'] at h4
      exact r.dj j k t u d1 d2 p q q' h3 h4, fun j d p h1 h2 => by
  rcases set_cases h1 with ⟨rfl, q, hi⟩ | ⟨hj, q⟩
  · cases q
  · rw [List.getElem?_set_ne hj] at h2
    exact r.pn j d p q h2⟩
/-- a slot is forgotten -/
theorem Rl.drop (r : Rl K B σ H ρ F) (i : Nat) : Rl K B σ H (ρ.set i none) F := ⟨r.fh, r.bh, r.zf, by rw [List.length_set, r.len], fun j e he => by
  rcases set_cases he with ⟨rfl, q, hi⟩ | ⟨hj, q⟩
  · cases q
  · exact r.fz j e q, fun j t e he => by
  rcases set_cases he with ⟨rfl, q, hi⟩ | ⟨hj, q⟩
  · cases q
  · exact r.ow j t e q, fun j k t u d1 d2 p h1 h2 h3 h4 => by
  rcases set_cases h1 with ⟨rfl, q, hi⟩ | ⟨hj, q⟩
  · cases q
  · rcases set_cases h2 with ⟨rfl, q', hi⟩ | ⟨hj', q'⟩
    · cases q'
    · exact r.dj j k t u d1 d2 p q q' h3 h4, fun j d p h1 h2 => by
  rcases set_cases h1 with ⟨rfl, q, hi⟩ | ⟨hj, q⟩
  · cases q
  · exact r.pn j d p q h2⟩
def clr : List Nat → Env → Env
  | [], ρ => ρ
  | i :: l, ρ => clr l (ρ.set i none)
theorem Rl.clr (r : Rl K B σ H ρ F) : ∀ l : List Nat, Rl K B σ H (Du.clr l ρ) F := fun l => by
  induction l generalizing ρ with
  | nil => exact r
  | cons i l ih => exact ih (r.drop i)
def setS (ρ : Env) : List (Nat × D) → Env
  | [] => ρ
  | p :: ps => setS (ρ.set p.1 (some (.frz p.2))) ps
theorem Rl.setAll : ∀ {bs : List (Nat × V)} {as : List (Nat × D)} {σ : St} {ρ : Env}, Rl K B σ H ρ F → As K F bs as → Rl K B (Du.setAll σ bs) H (setS ρ as) F
  | _, _, _, _, h, .nil => h
  | _, _, σ, ρ, h, .cons (a := a) (b := b) x y => Rl.setAll (σ := σ.set a.1 (some a.2)) (ρ := ρ.set b.1 (some (.frz b.2))) (by
      rw [x.1]
      exact h.set x.2) y
/-- a new thing of one's own -/
theorem Rl.setOwn (r : Rl K B σ H ρ F) {i : Nat} {p : Addr} {d : D} (h : Ow K F H p d) (fp : F p = none) (bp : B.b p = none) (np : ∀ (j : Nat) (t : Bool) (e : D), ρ[j]? = some (some (.own t e)) → σ[j]? = some (some (.ref p)) → j = i) : Rl K B (σ.set i (some (.ref p))) H (ρ.set i (some (.own false d))) F := ⟨r.fh, r.bh, r.zf, by rw [List.length_set, List.length_set, r.len], fun j e he => by
  rcases set_cases he with ⟨rfl, q, hi⟩ | ⟨hj, q⟩
  · cases q
  · obtain ⟨w, h1, h2⟩ := r.fz j e q
    exact ⟨w, by rw [List.getElem?_set_ne hj]; exact h1, h2⟩, fun j t e he => by
  rcases set_cases he with ⟨rfl, q, hi⟩ | ⟨hj, q⟩
  · cases q
    exact ⟨p, by rw [List.getElem?_set, if_pos rfl, if_pos (by rw [r.len]; exact hi)], fp, bp, h⟩
  · obtain ⟨p', q1, q2, q3, q4⟩ := r.ow j _ e q
    exact ⟨p', by rw [List.getElem?_set_ne hj]; exact q1, q2, q3, q4⟩, fun j k t u d1 d2 p' h1 h2 h3 h4 => by
  rcases set_cases h1 with ⟨rfl, q, hi⟩ | ⟨hj, q⟩
  · rcases set_cases h2 with ⟨rfl, q', hi'⟩ | ⟨hk, q'⟩
    · rfl
    · rw [List.getElem?_set, if_pos rfl, if_pos (by rw [r.len]; exact hi)] at h3
      cases h3
      rw [List.getElem?_set_ne hk] at h4
      exact absurd (np k _ _ q' h4).symm hk
  · rcases set_cases h2 with ⟨rfl, q', hi'⟩ | ⟨hk, q'⟩
    · rw [List.getElem?_set, if_pos rfl, if_pos (by rw [r.len]; exact hi')] at h4
      cases h4
      rw [List.getElem?_set_ne hj] at h3
      exact absurd (np j _ _ q h3).symm hj
    · rw [List.getElem?_set_ne hj] at h3
      rw [List.getElem?_set_ne hk] at h4
      exact r.dj j k t u d1 d2 p' q q' h3 h4, fun j e p' h1 h2 => by
  rcases set_cases h1 with ⟨rfl, q, hi⟩ | ⟨hj, q⟩
  · cases q
  · rw [List.getElem?_set_ne hj] at h2
    exact r.pn j e p' q h2⟩
/-- an own thing is changed -/
theorem Rl.write (r : Rl K B σ H ρ F) {i : Nat} {t : Bool} {p : Addr} {d d' : D} {o : HO} (hi : ρ[i]? = some (some (.own t d))) (hp : σ[i]? = some (some (.ref p))) (h : Ow K F (upd H p o) p d') : Rl K B σ (upd H p o) (ρ.set i (some (.own t d'))) F := by
  obtain ⟨p', q1, q2, q3, q4⟩ := r.ow i _ d hi
  rw [hp] at q1
  cases q1
  refine ⟨fun a u e => ?_, fun a u e => ?_, r.zf, by rw [List.length_set, r.len], fun j e he => ?_, fun j t2 e he => ?_, fun j k t1 t2 d1 d2 p' h1 h2 h3 h4 => ?_, fun j e p' h1 h2 => ?_⟩
  · rw [upd_ne fun z => by rw [z, q2] at e; cases e]
    exact r.fh _ _ e
  · rw [upd_ne fun z => by rw [z, q3] at e; cases e]
    exact r.bh _ _ e
  · rcases set_cases he with ⟨rfl, q, _⟩ | ⟨hj, q⟩
    · cases q
    · exact r.fz j e q
  · rcases set_cases he with ⟨rfl, q, _⟩ | ⟨hj, q⟩
    · cases q
      exact ⟨p, hp, q2, q3, h⟩
    · obtain ⟨p', w1, w2, w3, w4⟩ := r.ow j _ e q
      refine ⟨p', w1, w2, w3, w4.mono (.refl _) fun u hu => ?_⟩
      rw [upd_ne fun z => hj (by
        subst z
        exact r.dj i j _ _ _ _ _ hi q hp w1)]
      exact hu
  · rcases set_cases h1 with ⟨rfl, q, _⟩ | ⟨hj, q⟩
    · rcases set_cases h2 with ⟨rfl, q', _⟩ | ⟨hk, q'⟩
      · rfl
      · exact r.dj _ k _ _ _ _ p' hi q' h3 h4
    · rcases set_cases h2 with ⟨rfl, q', _⟩ | ⟨hk, q'⟩
      · exact r.dj j _ _ _ _ _ p' q hi h3 h4
      · exact r.dj j k _ _ _ _ p' q q' h3 h4
  · rcases set_cases h1 with ⟨rfl, q, _⟩ | ⟨hj, q⟩
    · cases q
      exact r.pn _ _ _ hi h2
    · exact r.pn j e p' q h2
/-! ### small statements, blocks -/
def sPass : Env → Out := fun ρ => .nx ρ
def sBreak : Env → Out := fun ρ => .bk ρ
def sCont : Env → Out := fun ρ => .ct ρ
def sSeq (g h : Env → Out) : Env → Out := fun ρ => match g ρ with
  | .nx ρ' => h ρ'
  | o => o
theorem fs_cont {pos : Pos} : FS K xm X (.Continue pos) sCont := PS.to ps_continue fun Dn σ H ⟨B, ρ, F, r, k⟩ => k σ H F r
theorem fss_nil : FSs K xm X [] sPass := PSs.to pss_nil fun Dn σ H ⟨B, ρ, F, r, k⟩ => k σ H F r
theorem fss_one {st : Stmt} {g : Env → Out} (h : FS K xm X st g) : FSs K xm X [st] g := pss_one h
theorem fss_cons {st : Stmt} {rest : List Stmt} {g h : Env → Out} (h1 : FS K xm X st g) (h2 : FSs K xm X rest h) : FSs K xm X (st :: rest) (sSeq g h) :=
  PSs.to (pss_cons h1 h2) fun Dn σ H ⟨B, ρ, F, r, k⟩ => ⟨B, ρ, F, r, by
    unfold sSeq at k
    cases e : g ρ with
    | nx ρ' =>
      rw [e] at k
      exact fun σ' H' F' r' => ⟨B, ρ', F', r', k⟩
    | bk ρ' => rw [e] at k; exact k
    | ct ρ' => rw [e] at k; exact k
    | rt d ρ' => rw [e] at k; exact k
    | ro d ρ' => rw [e] at k; exact k
    | ex x ρ' =>
      rw [e] at k
      cases xm with
      | none => exact k
      | some m => exact k
    | bad => rw [e] at k; exact k⟩
/-- x = e, a, b = e -/
def sAsg (L : List Nat) (f : VEnv → Res D) (tg : Tgt) : Env → Out := fun ρ => eAt L f ρ fun d => match tg d with
  | .ok as => .nx (setS (aft L d ρ) as)
  | _ => .bad
theorem fs_asg {tg e : Expr} {L : List Nat} {f : VEnv → Res D} {g : Tgt} {pos : Pos} (he : FE K xm X e f) (hg : FG K X tg g) (hs : swapsWithSole [tg] e pos.line X.env = pure false := by rfl) (hw : swappedStores [tg] e X.env = pure none := by rfl)
    (h1 : (assignEach [tg] X.env).map (·.2) = [assign tg X.env] := by rfl) : FS K xm X (.Assign [tg] e pos) (sAsg L f g) :=
  PS.to (ps_asg he hg hs hw h1) fun Dn σ H ⟨B, ρ, F, r, k⟩ => tF.at r k fun d v H' F' _ r' dv _ _ k' => by
    cases e : g d with
    | ok as =>
      rw [e] at k'
      exact ⟨F', d, as, r'.fh, dv, e, fun bs hb => k' _ _ _ (r'.setAll hb)⟩
    | exc x => rw [e] at k'; exact k'.elim
    | bad => rw [e] at k'; exact k'.elim
/-- e as a statement -/
def sExpr (L : List Nat) (f : VEnv → Res D) : Env → Out := fun ρ => eAt L f ρ fun d => .nx (aft L d ρ)
theorem fs_expr {e : Expr} {L : List Nat} {f : VEnv → Res D} {pos : Pos} (he : FE K xm X e f) (hs : swapsWith e none pos.line X.env = pure false := by rfl) : FS K xm X (.Expr e pos) (sExpr L f) :=
  PS.to (ps_expr he hs) fun Dn σ H ⟨B, ρ, F, r, k⟩ => tF.at r k fun d v H' F' _ r' dv _ _ k' => k' _ _ _ r'
def sRet (L : List Nat) (f : VEnv → Res D) : Env → Out := fun ρ => eAt L f ρ fun d => .rt d (aft L d ρ)
theorem fs_ret {e : Expr} {L : List Nat} {f : VEnv → Res D} {pos : Pos} (he : FE K xm X e f) : FS K xm X (.Return (some e) pos) (sRet L f) :=
  PS.to (ps_ret he) fun Dn σ H ⟨B, ρ, F, r, k⟩ => tF.at r k fun d v H' F' _ r' dv _ _ k' => k' _ _ _ _ r' dv
def sRetN : Env → Out := fun ρ => .rt .non ρ
def sIf (L : List Nat) (c : VEnv → Res Bool) (g h : Env → Out) : Env → Out := fun ρ => eAt L c ρ fun b => if b = true then g ρ else h ρ
theorem fs_if {c : Expr} {a b : List Stmt} {L : List Nat} {fc : VEnv → Res Bool} {g h : Env → Out} {pos : Pos} (hc : FT K xm X c fc) (ha : FSs K xm X a g) (hb : FSs K xm X b h) : FS K xm X (.If c a b pos) (sIf L fc g h) :=
  PS.to (ps_if hc ha hb) fun Dn σ H ⟨B, ρ, F, r, k⟩ => bF.at r k fun b H' F' _ r' k' => by
    cases b with
    | true => exact iteT ⟨B, ρ, F', r', by rwa [if_pos rfl] at k'⟩
    | false => exact iteF ⟨B, ρ, F', r', by rwa [if_neg Bool.false_ne_true] at k'⟩
/-! ### while -/
def loopO (k : Env → Out) : Out → Out
  | .nx ρ => k ρ
  | .ct ρ => k ρ
  | .bk ρ => .nx ρ
  | o => o
def whileN (L : List Nat) (c : VEnv → Res Bool) (g : Env → Out) : Nat → Env → Out
  | 0, _ => .bad
  | n + 1, ρ => eAt L c ρ fun b => if b = true then loopO (whileN L c g n) (g ρ) else .nx ρ
theorem whileN_mono (L : List Nat) (c : VEnv → Res Bool) (g : Env → Out) : ∀ (n : Nat) (ρ : Env), whileN L c g n ρ ≠ .bad → whileN L c g (n + 1) ρ = whileN L c g n ρ
  | 0, ρ, h => absurd rfl h
  | n + 1, ρ, h => by
    have ih := whileN_mono L c g n
    unfold whileN at h ⊢
    unfold eAt at h ⊢
    cases e : c (Du.view L ρ) with
    | ok b =>
      rw [e] at h
      dsimp only at h ⊢
      cases b with
      | true =>
        rw [if_pos rfl] at h ⊢
        rw [if_pos rfl]
        cases e2 : g ρ with
        | nx ρ' => rw [e2] at h; exact ih ρ' h
        | ct ρ' => rw [e2] at h; exact ih ρ' h
        | bk ρ' => rfl
        | rt d ρ' => rfl
        | ro d ρ' => rfl
        | ex x ρ' => rfl
        | bad => rfl
      | false => rfl
    | exc x => rfl
    | bad => rfl
theorem whileN_le (L : List Nat) (c : VEnv → Res Bool) (g : Env → Out) (n m : Nat) (ρ : Env) (h : whileN L c g n ρ ≠ .bad) (le : n ≤ m) : whileN L c g m ρ = whileN L c g n ρ := by
  induction m with
  | zero => rw [show n = 0 by omega]
  | succ m ih =>
    by_cases e : n = m + 1
    · rw [e]
    · have := ih (by omega)
      rw [whileN_mono L c g m ρ (by rw [this]; exact h), this]
open Classical in
noncomputable def sWhile (L : List Nat) (c : VEnv → Res Bool) (g : Env → Out) : Env → Out := fun ρ => if h : ∃ n, whileN L c g n ρ ≠ .bad then whileN L c g h.choose ρ else .bad
theorem sWhile_of {L : List Nat} {c : VEnv → Res Bool} {g : Env → Out} {n : Nat} {ρ : Env} (h : whileN L c g n ρ ≠ .bad) : sWhile L c g ρ = whileN L c g n ρ := by
  unfold sWhile
  have ex : ∃ n, whileN L c g n ρ ≠ .bad := ⟨n, h⟩
  rw [dif_pos ex]
  have q := ex.choose_spec
  rcases Nat.le_total n ex.choose with l | l
  · exact whileN_le L c g n _ ρ h l
  · exact (whileN_le L c g _ n ρ q l).symm
theorem sWhile_eq (L : List Nat) (c : VEnv → Res Bool) (g : Env → Out) (ρ : Env) : sWhile L c g ρ = eAt L c ρ fun b => if b = true then loopO (sWhile L c g) (g ρ) else .nx ρ := by
  have key : ∀ o : Out, o ≠ .bad → (sWhile L c g ρ = o ↔ (eAt L c ρ fun b => if b = true then loopO (sWhile L c g) (g ρ) else .nx ρ) = o) := fun o ho => by
    constructor
    · intro h
      have ex : ∃ n, whileN L c g n ρ ≠ .bad := by
        apply Classical.byContradiction
        intro q
        unfold sWhile at h
        rw [dif_neg q] at h
        exact ho h.symm
      obtain ⟨n, hn⟩ := ex
      rw [sWhile_of hn] at h
      cases n with
      | zero => exact absurd rfl hn
      | succ n =>
        unfold whileN at h hn
        unfold eAt at h hn ⊢
        cases e : c (Du.view L ρ) with
        | ok b =>
          rw [e] at h hn
          dsimp only at h hn ⊢
          cases b with
          | true =>
            rw [if_pos rfl] at h hn ⊢
            cases e2 : g ρ with
            | nx ρ' =>
              rw [e2] at h hn
              exact (sWhile_of hn).trans h
            | ct ρ' =>
              rw [e2] at h hn
              exact (sWhile_of hn).trans h
            | bk ρ' => rw [e2] at h; exact h
            | rt d ρ' => rw [e2] at h; exact h
            | ro d ρ' => rw [e2] at h; exact h
            | ex x ρ' => rw [e2] at h; exact h
            | bad => rw [e2] at h; exact h
          | false => exact h
        | exc x => rw [e] at h; exact h
        | bad => rw [e] at h; exact h
    · intro h
      have nb : ∀ ρ', sWhile L c g ρ' ≠ .bad → ∃ n, whileN L c g n ρ' ≠ .bad ∧ sWhile L c g ρ' = whileN L c g n ρ' := fun ρ' hb => by
        have ex : ∃ n, whileN L c g n ρ' ≠ .bad := by
          apply Classical.byContradiction
          intro q
          unfold sWhile at hb
          rw [dif_neg q] at hb
          exact hb rfl
        obtain ⟨n, hn⟩ := ex
        exact ⟨n, hn, sWhile_of hn⟩
      have ex : ∃ n, whileN L c g n ρ = o := by
        unfold eAt at h
        cases e : c (Du.view L ρ) with
        | ok b =>
          rw [e] at h
          dsimp only at h
          cases b with
          | true =>
            rw [if_pos rfl] at h
            have step : ∀ n, whileN L c g (n + 1) ρ = loopO (whileN L c g n) (g ρ) := fun n => by
              rw [whileN]
              unfold eAt
              rw [e]
              rfl
            cases e2 : g ρ with
            | nx ρ' =>
              rw [e2] at h
              obtain ⟨n, h1, h2⟩ := nb ρ' (by rw [show sWhile L c g ρ' = o from h]; exact ho)
              exact ⟨n + 1, by rw [step, e2]; exact h2.symm.trans h⟩
            | ct ρ' =>
              rw [e2] at h
              obtain ⟨n, h1, h2⟩ := nb ρ' (by rw [show sWhile L c g ρ' = o from h]; exact ho)
              exact ⟨n + 1, by rw [step, e2]; exact h2.symm.trans h⟩
            | bk ρ' => rw [e2] at h; exact ⟨1, by rw [step, e2]; exact h⟩
            | rt d ρ' => rw [e2] at h; exact ⟨1, by rw [step, e2]; exact h⟩
            | ro d ρ' => rw [e2] at h; exact ⟨1, by rw [step, e2]; exact h⟩
            | ex x ρ' => rw [e2] at h; exact ⟨1, by rw [step, e2]; exact h⟩
            | bad => rw [e2] at h; exact ⟨1, by rw [step, e2]; exact h⟩
          | false => exact ⟨1, by rw [whileN]; unfold eAt; rw [e]; exact h⟩
        | exc x => rw [e] at h; exact ⟨1, by rw [whileN]; unfold eAt; rw [e]; exact h⟩
        | bad => rw [e] at h; exact absurd h.symm ho
      obtain ⟨n, hn⟩ := ex
      rw [sWhile_of (n := n) (by rw [hn]; exact ho), hn]
  by_cases h : sWhile L c g ρ = .bad
  · by_cases h2 : (eAt L c ρ fun b => if b = true then loopO (sWhile L c g) (g ρ) else .nx ρ) = .bad
    · rw [h, h2]
    · exact ((key _ h2).mpr rfl)
  · exact ((key _ h).mp rfl).symm
theorem fs_while {c : Expr} {body : List Stmt} {L : List Nat} {fc : VEnv → Res Bool} {g : Env → Out} {pos : Pos} (hp : PassesOwn (model X.prog X.w) X.A X.env X.xe) (hc : FT K xm X c fc) (hb : FSs K xm X body g) : FS K xm X (.While c body [] pos) (sWhile L fc g) :=
  PS.to (ps_while hp hc hb) fun Dn σ H ⟨B, ρ, F, r, k⟩ => by
    have ex : ∃ n, whileN L fc g n ρ ≠ .bad := by
      apply Classical.byContradiction
      intro q
      unfold sWhile at k
      rw [dif_neg q] at k
      exact k
    obtain ⟨n, hn⟩ := ex
    rw [sWhile_of hn] at k
    refine ⟨fun m σ H => ∃ ρ F, Rl K B σ H ρ F ∧ So K xm B Dn (whileN L fc g m ρ), ⟨n, ρ, F, r, k⟩, ?_⟩
    rintro m σ H ⟨ρ, F, r, k⟩
    cases m with
    | zero => exact k.elim
    | succ m =>
      unfold whileN at k
      refine bF.at r k fun b H' F' _ r' k' => ?_
      cases b with
      | false => exact iteF (by rw [if_neg Bool.false_ne_true] at k'; exact k' _ _ _ r')
      | true =>
        rw [if_pos rfl] at k'
        refine iteT ⟨fun σ H => ∃ ρ F, Rl K B σ H ρ F ∧ So K xm B Dn (whileN L fc g m ρ), fun σ' H' q => ⟨m, Nat.lt_succ_self m, q⟩, B, ρ, F', r', ?_⟩
        cases e : g ρ with
        | nx ρ' => rw [e] at k'; exact fun σ H F r => ⟨ρ', F, r, k'⟩
        | ct ρ' => rw [e] at k'; exact fun σ H F r => ⟨ρ', F, r, k'⟩
        | bk ρ' => rw [e] at k'; exact k'
        | rt d ρ' => rw [e] at k'; exact k'
        | ro d ρ' => rw [e] at k'; exact k'
        | ex x ρ' =>
          rw [e] at k'
          cases xm with
          | none => exact k'
          | some m => exact k'
        | bad => rw [e] at k'; exact k'
/-! ### for -/
def forL (tg : Tgt) (g : Env → Out) (l : List Nat) : List D → Env → Out
  | [], ρ => .nx ρ
  | d :: ds, ρ => match tg d with
    | .ok as => loopO (fun ρ' => forL tg g l ds (clr l ρ')) (g (setS ρ as))
    | _ => .bad
def sFor (L : List Nat) (it : VEnv → Res (List D)) (tg : Tgt) (g : Env → Out) (l : List Nat) : Env → Out := fun ρ => eAt L it ρ fun ds => forL tg g l ds (shut L ρ)
theorem for_loop {gt : Tgt} {g : Env → Out} {l : List Nat} {tb : TS} {J : It} {ds : List D} (ht : tb = sF K xm g) (r : Rl K B σ H ρ F) (y : Yl K F J ds) (k : So K xm B Dn (forL gt g l ds ρ)) :
    ∃ W : Nat → Nat → St → Hp → Prop, (∃ m, W 0 m σ H) ∧ ∀ i m σ H, W i m σ H →
      (J.stop i H ∧ Dn.nx σ H) ∨ (J.go i H ∧ ∃ N : St → Hp → Prop, (∀ σ' H', N σ' H' → ∃ m', m' < m ∧ W (i + 1) m' σ' H') ∧ ∀ x H', J.yld i H x H' → gF K gt x σ H' fun σ2 H2 => tb { Dn with nx := N, ct := N, bk := Dn.nx } σ2 H2) := by
  subst ht
  obtain ⟨B1, sB, sF1, sF2, r1⟩ := r.base
  let St' : Nat → St → Hp → Prop := fun i σ2 H2 => ∃ ρ2 F2, Rl K B1 σ2 H2 ρ2 F2 ∧ So K xm B Dn (forL gt g l (ds.drop i) ρ2)
  refine ⟨fun i m σ2 H2 => m = ds.length - i ∧ i ≤ ds.length ∧ St' i σ2 H2, ⟨ds.length, by simp, Nat.zero_le _, ρ, F, r1, k⟩, ?_⟩
  rintro i m σ2 H2 ⟨rfl, hi, ρ2, F2, r2, k2⟩
  -- what was told of at the start is told of now
  obtain ⟨F3, s23, s13, r3⟩ : ∃ F3, Same F2 F3 ∧ Same F F3 ∧ Rl K B1 σ2 H2 ρ2 F3 := by
    have sFH : Same F H2 := sF1.trans r2.bh
    refine ⟨both F2 F, both_l, both_r r2.fh sFH, both_in r2.fh sFH, r2.bh, fun a o u e1 e2 => ?_, r2.len, fun j d e => ?_, fun j t d e => ?_, r2.dj, r2.pn⟩
    · rcases both_cases e2 with z | z
      · exact r2.zf _ _ _ e1 z
      · exact ⟨_, sF2 _ _ z⟩
    · obtain ⟨v, q1, q2⟩ := r2.fz j d e
      exact ⟨v, q1, q2.same both_l⟩
    · obtain ⟨p, q1, q2, q3, q4⟩ := r2.ow j _ d e
      exact ⟨p, q1, both_none q2 (sF1.free q3), q3, q4.mono both_l fun _ h => h⟩
  by_cases hlt : i < ds.length
  · refine .inr ⟨y.go i H2 hlt (s13.trans r3.fh), St' (i + 1), fun σ' H' p' => ⟨ds.length - (i + 1), by omega, rfl, hlt, p'⟩, fun x H3 yx => ?_⟩
    obtain ⟨F4, g4, dx⟩ := y.yld i ds[i] F3 H2 x H3 (List.getElem?_eq_getElem hlt) s13 r3.fh yx
    rw [List.drop_eq_getElem_cons hlt] at k2
    unfold forL at k2
    cases e1 : gt ds[i] with
    | exc x => rw [e1] at k2; exact k2.elim
    | bad => rw [e1] at k2; exact k2.elim
    | ok as =>
      rw [e1] at k2
      have k2 : So K xm B Dn (loopO (fun ρ' => forL gt g l (ds.drop (i + 1)) (clr l ρ')) (g (setS ρ2 as))) := k2
      have r4 := r3.grow g4
      refine ⟨F4, ds[i], as, r4.fh, dx, e1, fun bs hb => ⟨B1, setS ρ2 as, F4, r4.setAll hb, ?_⟩⟩
      cases e2 : g (setS ρ2 as) with
      | nx ρ' => rw [e2] at k2; exact fun σ H F r => ⟨_, F, r.clr l, k2⟩
      | ct ρ' => rw [e2] at k2; exact fun σ H F r => ⟨_, F, r.clr l, k2⟩
      | bk ρ' => rw [e2] at k2; exact fun σ H F r => k2 σ H F (r.unbase sB)
      | rt d ρ' => rw [e2] at k2; exact fun v σ H F r => k2 v σ H F (r.unbase sB)
      | ro d ρ' => rw [e2] at k2; exact fun p σ H F r f b => k2 p σ H F (r.unbase sB) f (sB.b.free b)
      | ex x ρ' =>
        rw [e2] at k2
        exact So.weak (o := .ex x ρ') (by cases xm with
          | none => exact k2
          | some m => exact k2) sB
      | bad => rw [e2] at k2; exact k2
  · have e : i = ds.length := by omega
    subst e
    rw [List.drop_length] at k2
    exact .inl ⟨y.stop H2 (s13.trans r3.fh), k2 _ _ _ (r2.unbase sB)⟩
theorem fs_for {tg iter : Expr} {body : List Stmt} {L : List Nat} {it : VEnv → Res (List D)} {gt : Tgt} {g : Env → Out} {pos : Pos} (l : List Nat) (hp : PassesOwn (model X.prog X.w) X.A X.env X.xe) (hi : FI K xm X tg iter it) (hg : FG K X tg gt) (hb : FSs K xm X body g) (hc : X.calm = true := by rfl)
    (hs : ∀ x, foldedSetIterable iter X.env x = pure x := by intro _; rfl) : FS K xm X (.For tg iter body [] pos) (sFor L it gt g l) :=
  PS.to (ps_for hp hc hi hg hb hs) fun Dn σ H ⟨B, ρ, F, r, k⟩ => by
    refine ⟨_, _, r.lend_fh L, r.view L, ?_⟩
    unfold sFor eAt at k
    cases e : it (view L ρ) with
    | ok ds =>
      rw [e] at k
      intro J F' H' g y
      exact for_loop rfl (r.shutted g) y k
    | exc x => rw [e] at k; exact exc_at r k
    | bad => rw [e] at k; exact k.elim
end
end Du

namespace Du
open PySem PySem.Spec PyProof.Rows L2
section
variable {K : PySem.W.Frag} {xm : XMo} {X : Cx} {B : Bs} {F H : Hp} {σ : St} {ρ : Env} {Dn : Ends}
/-! ### expressions that make a new list, a new dict: the def's own -/
def PoW (K : PySem.W.Frag) (xm : XMo) (σ : St) (F H : Hp) (r : Res D) (Q : VK) : Prop := match r with
  | .ok d => ∀ p F' H', Gr F H F' H' → H p = none → F' p = none → Ow K F' H' p d → Q (.ref p) H'
  | .exc x => Xw K xm σ F H x
  | .bad => False
def tW (K : PySem.W.Frag) (xm : XMo) (f : VEnv → Res D) : TE := fun σ H Q => ∃ F ρ, Same F H ∧ Vw K F σ ρ ∧ PoW K xm σ F H (f ρ) Q
abbrev FW' (K : PySem.W.Frag) (xm : XMo) (X : Cx) (e : Expr) (f : VEnv → Res D) : Prop := PE X e (tW K xm f)
theorem PoW.mono {F1 H1 : Hp} {r : Res D} {Q : VK} (h : PoW K xm σ F H r Q) (g : Gr F H F1 H1) : PoW K xm σ F1 H1 r Q := by
  cases r with
  | ok a => exact fun p F' H' g' hp => h p F' H' (g.trans g') (g.hh.free hp)
  | exc x => exact Xw.mono h g
  | bad => exact h
theorem PoW.seq {α ω : Type} {R : Hp → ω → α → Prop} {r : Res α} {f : α → Res D} {Q : VK} {W : ω → Hp → Prop} (k : PoW K xm σ F H (r.bind f) Q) (n : ∀ a w F1 H1, Gr F H F1 H1 → R F1 w a → PoW K xm σ F1 H1 (f a) Q → W w H1) : Po R K xm σ F H r W := by
  cases r with
  | ok a => exact fun w F1 H1 g d => n a w F1 H1 g d (PoW.mono k g)
  | exc x => exact k
  | bad => exact k
theorem PoW.ite {b : Bool} {r : Res D} {Q : VK} (k : PoW K xm σ F H (if b = true then r else .bad) Q) : b = true ∧ PoW K xm σ F H r Q := by
  cases b with
  | true => exact ⟨rfl, by rwa [if_pos rfl] at k⟩
  | false =>
    rw [if_neg Bool.false_ne_true] at k
    exact k.elim
theorem PoW.new {d : D} {Q : VK} {p : Addr} {o : HO} (k : PoW K xm σ F H (.ok d) Q) (s : Same F H) (hp : H p = none) (h : Ow K F (upd H p o) p d) : Q (.ref p) (upd H p o) := k p F _ (.hid s hp) hp (s.free hp) h
theorem fw_lst {es : List Expr} {pos : Pos} {f : VEnv → Res (List D)} (h : FA K xm X es f) : FW' K xm X (.List es pos) (eLst f) :=
  PE.to (pe_lst h) fun σ H Q ⟨F, ρ, sF, vw, k⟩ => ⟨F, ρ, sF, vw, PoW.seq k fun a xs F1 H1 g1 d1 k1 => by
    obtain ⟨f, k1⟩ := PoW.ite k1
    exact ⟨by rw [d1.length]; exact Nat.le_of_lt (fit_line f), fun p hp => k1.new g1.fh hp ⟨xs, upd_same, d1⟩⟩⟩
theorem fw_dct0 {pos : Pos} : FW' K xm X (.Dict [] [] pos) eDct0 := PE.to pe_dnewK fun σ H Q ⟨F, ρ, sF, vw, k⟩ p hp => PoW.new k sF hp ⟨[], upd_same, .nil, rfl⟩
def dCat : D → D → Res D
  | .lst a, .lst b => if fit (a.length + b.length) = true then .ok (.lst (a ++ b)) else .bad
  | _, _ => .bad
/-! ### x = e, e new -/
def immO : D → Bool
  | .lst ds => imms ds
  | .dct _ ds => imms (ds.map (·.2))
  | _ => false
def aftO (L : List Nat) (d : D) (ρ : Env) : Env := if immO d = true then ρ else shut L ρ
theorem Ow.tups {F' : Hp} {p : Addr} {d : D} (s : Tups F F') (i : immO d = true) (h : Ow K F H p d) : Ow K F' H p d := by
  unfold Ow at h ⊢
  split at h
  · obtain ⟨xs, h1, h2⟩ := h
    exact ⟨xs, h1, DtAll.tups s i h2⟩
  · obtain ⟨kvs, h1, h2, h3⟩ := h
    exact ⟨kvs, h1, DtAll.tups s i h2, h3⟩
  · obtain ⟨kvs, h1, h2, h3⟩ := h
    exact ⟨kvs, h1, DtAll.tups s i h2, h3⟩
  · exact h.elim
theorem Rl.aftO (r : Rl K B σ H ρ F) {L : List Nat} {F' H' : Hp} (g : Gr (lend σ ρ L F H) H F' H') {p : Addr} {d : D} (fp : F' p = none) (h : Ow K F' H' p d) : ∃ F2, Rl K B σ H' (aftO L d ρ) F2 ∧ Ow K F2 H' p d ∧ F2 p = none := by
  unfold Du.aftO
  by_cases i : immO d = true
  · rw [if_pos i]
    refine ⟨_, r.back g, Ow.tups (r.back_dts g) i h, ?_⟩
    unfold unlend
    split
    · rfl
    · exact fp
  · rw [if_neg i]
    exact ⟨_, r.shutted g, h, fp⟩
theorem aftO_own {L : List Nat} {d e : D} {t : Bool} {i : Nat} (h : (aftO L d ρ)[i]? = some (some (.own t e))) : ρ[i]? = some (some (.own t e)) := by
  unfold aftO at h
  split at h
  · exact h
  · rw [shut_get] at h
    obtain ⟨s, h1, h2⟩ := Option.map_eq_some_iff.mp h
    cases s with
    | none => cases h2
    | some s =>
      cases s with
      | frz e => cases h2
      | own t e =>
        unfold shutS at h2
        dsimp only at h2
        by_cases c : L.contains i = true
        · rw [if_pos c] at h2; cases h2
        · rw [if_neg c] at h2
          cases h2
          exact h1
theorem tW.at {L : List Nat} {f : VEnv → Res D} {k : D → Out} {Q : VK} (r : Rl K B σ H ρ F) (h : So K xm B Dn (eAt L f ρ k)) (n : ∀ d p H' F', H p = none → Rl K B σ H' (aftO L d ρ) F' → Ow K F' H' p d → F' p = none → So K xm B Dn (k d) → Q (.ref p) H') : tW K xm f σ H Q := by
  refine ⟨_, _, r.lend_fh L, r.view L, ?_⟩
  unfold eAt at h
  cases e : f (view L ρ) with
  | ok d =>
    rw [e] at h
    intro p F' H' g hp fp ow
    obtain ⟨F2, r2, h2, h3⟩ := r.aftO g fp ow
    exact n d p H' F2 hp r2 h2 h3 h
  | exc x =>
    rw [e] at h
    exact exc_at r h
  | bad => rw [e] at h; exact h.elim
def sOwn (i : Nat) (L : List Nat) (f : VEnv → Res D) : Env → Out := fun ρ => eAt L f ρ fun d => .nx ((aftO L d ρ).set i (some (.own false d)))
theorem own_set {L : List Nat} {d : D} {p : Addr} {F' H' : Hp} {i : Nat} (r0 : Rl K B σ H ρ F) (hp : H p = none) (r : Rl K B σ H' (aftO L d ρ) F') (ow : Ow K F' H' p d) (fp : F' p = none) : Rl K B (σ.set i (some (.ref p))) H' ((aftO L d ρ).set i (some (.own false d))) F' := by
  refine r.setOwn ow fp (r0.bh.free hp) fun j t e h1 h2 => ?_
  have h3 := aftO_own h1
  obtain ⟨p', q1, q2, q3, q4⟩ := r0.ow j _ e h3
  rw [h2] at q1
  cases q1
  obtain ⟨o, ho⟩ := q4.some
  rw [hp] at ho
  cases ho
theorem fs_own {x : Str} {e : Expr} {L : List Nat} {f : VEnv → Res D} {p1 pos : Pos} (i : Nat) (he : FW' K xm X e f) (hN : X.N.Nodup) (hi : X.N[i]? = some x := by rfl) (hx : Loc X.env.scope x := by first | exact Or.inl rfl | exact Or.inr rfl) (hf : X.fn x = true ∨ X.env.scope.names.lookup x = some .local := by first | exact .inl rfl | exact .inr rfl)
    (hs : swapsWithSole [.Name x p1] e pos.line X.env = pure false := by rfl) (hw : swappedStores [.Name x p1] e X.env = pure none := by rfl) (h1 : (assignEach [.Name x p1] X.env).map (·.2) = [assign (.Name x p1) X.env] := by rfl) : FS K xm X (.Assign [.Name x p1] e pos) (sOwn i L f) :=
  PS.to (ps_asg he (pg_name hN hi hx hf) hs hw h1) fun Dn σ H ⟨B, ρ, F, r, k⟩ => tW.at r k fun d p H' F' hp r' ow fp k' => k' _ _ _ (own_set r hp r' ow fp)
/-- return e, e new -/
def sRetO (L : List Nat) (f : VEnv → Res D) : Env → Out := fun ρ => eAt L f ρ fun d => .ro d (aftO L d ρ)
theorem fs_retO {e : Expr} {L : List Nat} {f : VEnv → Res D} {pos : Pos} (he : FW' K xm X e f) : FS K xm X (.Return (some e) pos) (sRetO L f) :=
  PS.to (ps_ret he) fun Dn σ H ⟨B, ρ, F, r, k⟩ => tW.at r k fun d p H' F' hp r' ow fp k' => k' p _ _ _ r' fp (r.bh.free hp) ow
/-- return x, x an own one -/
def sRetS (i : Nat) : Env → Out := fun ρ => match ρ[i]? with
  | some (some (.own _ d)) => .ro d (ρ.set i none)
  | _ => .bad
/-- x = [e for ..], on one line, x no cell -/
theorem fs_ownLc {y : Str} {py : Pos} {elt tg iter : Expr} {ifs : List Expr} {scope : Scope} {pos spos : Pos} {L : List Nat} {it : VEnv → Res (List D)} {g : Tgt} {c : VEnv → Res Bool} {f : VEnv → Res D} (i : Nat) (own : List (Str × Nat)) (hN : X.N.Nodup) (hi : FI K xm X tg iter it)
    (hg : ∀ (s : Shared) (H : Hp) (C : Addr) (cl : List (Str × Addr)) (fp : List Addr), FG K (X.blk s H scope (compEnvC scope cl C X.env) fp) tg g) (ht : ∀ (s : Shared) (H : Hp) (C : Addr) (cl : List (Str × Addr)) (fp : List Addr), FTs K (X.blk s H scope (compEnvC scope cl C X.env) fp) ifs c)
    (he : ∀ (s : Shared) (H : Hp) (C : Addr) (cl : List (Str × Addr)) (fp : List Addr), FE K none (X.blk s H scope (compEnvC scope cl C X.env) fp) elt f)
    (ok : BlkOk X.N X.env.scope scope own) (hsw : swapsWith (.ListComp elt [⟨tg, iter, ifs, 0⟩] scope pos) (some (.Name y py)) spos.line X.env = pure true) (hy : X.N[i]? = some y := by rfl) (hyl : X.env.scope.names.lookup y = some .local := by rfl) (hc : X.calm = true := by rfl) (hs : ∀ x, foldedSetIterable iter X.env x = pure x := by intro _; rfl) :
    FS K xm X (.Assign [.Name y py] (.ListComp elt [⟨tg, iter, ifs, 0⟩] scope pos) spos) (sOwn i L (eComp (own.map (·.2)) it g c f)) :=
  PS.to (ps_setLc (i := i) hc hN hy hyl hsw hi ok hg ht he hs) fun Dn σ H ⟨B, ρ, F, r, k⟩ => by
    have m : ∀ σ H Q, tW K xm (eComp (own.map (·.2)) it g c f) σ H Q → tLc (iF K xm it) (gF K g) (bF K none c) (tF K none f) (own.map (·.2)) σ H Q := fun σ H Q ⟨F, ρ, sF, vw, k⟩ => ⟨F, ρ, sF, vw, PoW.seq k fun ds J F1 H1 g1 y k1 p hp => by
      obtain ⟨hz, k2⟩ := PoW.ite k1
      cases e : compL g c f (wipeD ρ (own.map (·.2))) (own.map (·.2)) ds with
      | exc x => rw [e] at k2; exact k2.elim
      | bad => rw [e] at k2; exact k2.elim
      | ok es =>
        rw [e] at k2
        exact comp_loop g1.fh (vw.same g1.ff) y hp hz e fun F' H' acc g fp ep dd => k2 p F' H' g hp fp ⟨acc, ep, dd⟩⟩
    exact m _ _ _ (tW.at r k fun d p H' F' hp r' ow fp k' => k' _ _ _ (own_set r hp r' ow fp))
/-! ### methods that change an own list -/
def ownL (ρ : Env) (i : Nat) : Option (Bool × List D) := match ρ[i]? with
  | some (some (.own t (.lst ds))) => some (t, ds)
  | _ => none
theorem ownL_of {ρ : Env} {i : Nat} {t : Bool} {ds : List D} (h : ownL ρ i = some (t, ds)) : ρ[i]? = some (some (.own t (.lst ds))) := by
  unfold ownL at h
  split at h
  · rename_i e
    cases h
    exact e
  · cases h
def oNx (o : Option Env) : Out := match o with
  | some ρ => .nx ρ
  | none => .bad
/-- the own list at slot i becomes f of it -/
def chg (ρ : Env) (i : Nat) (f : List D → Option (List D)) : Out := match ownL ρ i with
  | some (t, ds) => match f ds with
    | some es => .nx (ρ.set i (some (.own t (.lst es))))
    | none => .bad
  | none => .bad
def sApp (i : Nat) (L : List Nat) (f : VEnv → Res D) : Env → Out := fun ρ => eAt L f ρ fun d => chg (aft L d ρ) i fun ds => if fit ds.length = true then some (ds ++ [d]) else none
theorem So.chgE {i : Nat} {f : List D → Option (List D)} (k : So K xm B Dn (chg ρ i f)) : ∃ t ds es, ρ[i]? = some (some (.own t (.lst ds))) ∧ f ds = some es ∧ So K xm B Dn (.nx (ρ.set i (some (.own t (.lst es))))) := by
  unfold chg at k
  cases e : ownL ρ i with
  | none => rw [e] at k; exact k.elim
  | some td =>
    obtain ⟨t, ds⟩ := td
    rw [e] at k
    dsimp only at k
    cases e2 : f ds with
    | none => rw [e2] at k; exact k.elim
    | some es => rw [e2] at k; exact ⟨t, ds, es, ownL_of e, e2, k⟩
/-- an own list at slot i, else nothing -/
def need (i : Nat) (g : Env → Out) : Env → Out := fun ρ => match ownL ρ i with
  | some _ => g ρ
  | none => .bad
theorem So.needE {i : Nat} {g : Env → Out} (k : So K xm B Dn (need i g ρ)) : (∃ t ds, ρ[i]? = some (some (.own t (.lst ds)))) ∧ So K xm B Dn (g ρ) := by
  unfold need at k
  cases e : ownL ρ i with
  | none => rw [e] at k; exact k.elim
  | some td => rw [e] at k; exact ⟨⟨td.1, td.2, ownL_of e⟩, k⟩
theorem Rl.ownAt (r : Rl K B σ H ρ F) {i : Nat} {t : Bool} {ds : List D} (h : ρ[i]? = some (some (.own t (.lst ds)))) : ∃ p xs, σ[i]? = some (some (.ref p)) ∧ H p = some (.lst xs) ∧ DtAll K F xs ds ∧ F p = none := by
  obtain ⟨p, q1, q2, q3, xs, q4, q5⟩ := r.ow i _ _ h
  exact ⟨p, xs, q1, q4, q5, q2⟩
theorem fs_app {x : Str} {e : Expr} {L : List Nat} {f : VEnv → Res D} {p1 apos cpos pos : Pos} (i : Nat) (he : FE K xm X e f) (hN : X.N[i]? = some x := by rfl) (hv : Vis X.env.scope x := by first | exact Or.inl rfl | exact Or.inr (Or.inl rfl) | exact Or.inr (Or.inr rfl)) (hd : (x == ("__debug__" : Str)) = false := by decide)
    (hcd : (x == ("__classdict__" : Str)) = false := by decide) (hbase : attributeBase (.Name x p1) "append" X.env (eval (.Name x p1) X.env) = eval (.Name x p1) X.env := by rfl)
    (hfew : ((backTo cpos (starEach [e] X.env)).all (fun x => !x.1) && (backToKw cpos (keywordEach [] X.env)).all (fun x => x.1.isSome) && decide (([e] : List Expr).length + ([] : List Keyword).length + (if ([] : List Keyword).isEmpty then 0 else 1) < 30)) = true := by rfl)
    (hline : (apos.endLine == cpos.line) = true := by rfl) (hs : starEach [e] X.env = (false, eval e X.env) :: starEach [] X.env := by rfl) (hplain : (backTo cpos (starEach [] X.env)).any (·.1) = false := by rfl)
    (hsw : swapsWith (.Call (.Attribute (.Name x p1) "append" apos) [e] [] cpos) none pos.line X.env = pure false := by rfl) : FS K xm X (.Expr (.Call (.Attribute (.Name x p1) "append" apos) [e] [] cpos) pos) (need i (sApp i L f)) :=
  PS.to (ps_expr (pe_bm PySem.F.plainAttrs_list PySem.F.slot_list_append PySem.F.type_list_append mt_append (pv i hN hv hd hcd) (pa_cons he pa_nil hs) hbase hfew hline hs hplain) hsw) fun Dn σ H ⟨B, ρ, F, r, k⟩ => by
    obtain ⟨⟨t, ds, hi⟩, k⟩ := k.needE
    obtain ⟨p, xs, q1, q2, q3, q4⟩ := r.ownAt hi
    refine ⟨.ref p, q1, .inl ⟨rfl, _, SqL.of q2⟩, tF.at r k fun d v H' F' _ r' dv ff hh k' => ?_⟩
    obtain ⟨t', ds', es, h1, h2, k2⟩ := k'.chgE
    obtain ⟨p', xs', w1, w2, w3, w4⟩ := r'.ownAt h1
    rw [q1] at w1
    cases w1
    by_cases f : fit ds'.length = true
    · rw [if_pos f] at h2
      cases h2
      refine ⟨p, xs', v, rfl, rfl, w2, by rw [w3.length]; exact fit_line f, k2 _ _ _ (r'.write h1 q1 ⟨_, upd_same, w3.app (.cons dv .nil)⟩)⟩
    · rw [if_neg f] at h2
      cases h2
end
end Du

namespace Du
open PySem PySem.Spec PyProof.Rows L2
section
variable {K : PySem.W.Frag} {xm : XMo} {X : Cx} {B : Bs} {F H : Hp} {σ : St} {ρ : Env} {Dn : Ends}
/-! ### x.extend(e) -/
def dLst : D → Res (List D)
  | .lst ds => .ok ds
  | _ => .bad
def eLs (f : VEnv → Res D) : VEnv → Res (List D) := fun ρ => (f ρ).bind dLst
def sExt (i : Nat) (L : List Nat) (f : VEnv → Res D) : Env → Out := fun ρ => eAt L (eLs f) ρ fun es => chg (aftL L es ρ) i fun ds => if fit (ds.length + es.length) = true then some (ds ++ es) else none
/-! ### x.clear(), y = x.pop() -/
def sClr (i : Nat) : Env → Out := fun ρ => chg ρ i fun _ => some []
def sPop (i : Nat) (tg : Tgt) : Env → Out := fun ρ => match ownL ρ i with
  | some (t, ds) => match ds[ds.length - 1]? with
    | some d => match tg d with
      | .ok as => .nx (setS (ρ.set i (some (.own t (.lst ds.dropLast)))) as)
      | _ => .bad
    | none => .bad
  | none => .bad
theorem DtAll.dropLast {F : Hp} {vs : List V} {ds : List D} (h : DtAll K F vs ds) : DtAll K F vs.dropLast ds.dropLast := by
  rw [List.dropLast_eq_take, List.dropLast_eq_take, h.length]
  exact h.take _
theorem fs_pop {x : Str} {tg : Expr} {g : Tgt} {p1 apos cpos pos : Pos} (i : Nat) (hg : FG K X tg g) (hN : X.N[i]? = some x := by rfl) (hv : Vis X.env.scope x := by first | exact Or.inl rfl | exact Or.inr (Or.inl rfl) | exact Or.inr (Or.inr rfl)) (hd : (x == ("__debug__" : Str)) = false := by decide)
    (hcd : (x == ("__classdict__" : Str)) = false := by decide) (hbase : attributeBase (.Name x p1) "pop" X.env (eval (.Name x p1) X.env) = eval (.Name x p1) X.env := by rfl) (hline : (apos.endLine == cpos.line) = true := by rfl)
    (hs : swapsWithSole [tg] (.Call (.Attribute (.Name x p1) "pop" apos) [] [] cpos) pos.line X.env = pure false := by rfl) (hw : swappedStores [tg] (.Call (.Attribute (.Name x p1) "pop" apos) [] [] cpos) X.env = pure none := by rfl)
    (h1 : (assignEach [tg] X.env).map (·.2) = [assign tg X.env] := by rfl) : FS K xm X (.Assign [tg] (.Call (.Attribute (.Name x p1) "pop" apos) [] [] cpos) pos) (sPop i g) :=
  PS.to (ps_asg (pe_bm0 PySem.F.plainAttrs_list PySem.F.slot_list_pop PySem.F.type_list_pop mt_pop (pv i hN hv hd hcd) hbase hline) hg hs hw h1) fun Dn σ H ⟨B, ρ, F, r, k⟩ => by
    unfold sPop at k
    cases e : ownL ρ i with
    | none => rw [e] at k; exact k.elim
    | some td =>
      obtain ⟨t, ds⟩ := td
      rw [e] at k
      dsimp only at k
      cases e2 : ds[ds.length - 1]? with
      | none => rw [e2] at k; exact k.elim
      | some d =>
        rw [e2] at k
        dsimp only at k
        cases e3 : g d with
        | exc x => rw [e3] at k; exact k.elim
        | bad => rw [e3] at k; exact k.elim
        | ok as =>
          rw [e3] at k
          have hi := ownL_of e
          obtain ⟨p, xs, w1, w2, w3, w4⟩ := r.ownAt hi
          obtain ⟨v, q1, q2⟩ := w3.at e2
          have r' := r.write hi w1 (o := .lst xs.dropLast) (d' := .lst ds.dropLast) ⟨_, upd_same, w3.dropLast⟩
          exact ⟨.ref p, w1, .inl ⟨rfl, _, SqL.of w2⟩, p, xs, v, rfl, rfl, w2, by rw [w3.length]; exact q1, F, d, as, r'.fh, q2, e3, fun bs hb => k _ _ _ (r'.setAll hb)⟩
/-! ### x.insert(i, e) -/
def sIns (i : Nat) (L : List Nat) (f : VEnv → Res (List D)) : Env → Out := fun ρ => eAt L f ρ fun as => match as with
  | [.int n, d] => chg (aftL L as ρ) i fun ds => if (fit ds.length && decide (0 ≤ n ∧ n ≤ ds.length)) = true then some (ds.take n.toNat ++ d :: ds.drop n.toNat) else none
  | _ => .bad
theorem aF.at {L : List Nat} {f : VEnv → Res (List D)} {k : List D → Out} {Q : List V → Hp → Prop} (r : Rl K B σ H ρ F) (h : So K xm B Dn (eAt L f ρ k)) (n : ∀ ds vs H' F', Rl K B σ H' (aftL L ds ρ) F' → DtAll K F' vs ds → Same F F' → So K xm B Dn (k ds) → Q vs H') : aF K xm f σ H Q := by
  refine ⟨_, _, r.lend_fh L, r.view L, ?_⟩
  unfold eAt at h
  cases e : f (view L ρ) with
  | ok d =>
    rw [e] at h
    intro v F' H' g hd
    obtain ⟨F2, r2, h2, h3, _⟩ := r.aftL g hd
    exact n d v H' F2 r2 h2 h3 h
  | exc x =>
    rw [e] at h
    exact exc_at r h
  | bad => rw [e] at h; exact h.elim
/-! ### a, b = e1, e2 -/
def sPar (i j : Nat) (L : List Nat) (f : VEnv → Res (List D)) : Env → Out := fun ρ => eAt L f ρ fun as => match as with
  | [a, b] => .nx (((aftL L as ρ).set i (some (.frz a))).set j (some (.frz b)))
  | _ => .bad
theorem fs_par {x y : Str} {a b : Expr} {L : List Nat} {f : VEnv → Res (List D)} {px py pt pos : Pos} {kt k2 pt2} (i j : Nat) (hN : X.N.Nodup) (ha : FA K xm X [a, b] f) (hi : X.N[i]? = some x := by rfl) (hj : X.N[j]? = some y := by rfl) (hij : i ≠ j := by decide) (hc : X.calm = true := by rfl)
    (hx : X.env.scope.names.lookup x = some .local := by rfl) (hy : X.env.scope.names.lookup y = some .local := by rfl) (hw : swappedStores [.Tuple [.Name x px, .Name y py] kt pt] (.Tuple [a, b] k2 pt2) X.env = pure (some [x, y]) := by rfl)
    (hs : swapsWithSole [.Tuple [.Name x px, .Name y py] kt pt] (.Tuple [a, b] k2 pt2) pos.line X.env = pure false := by rfl) : FS K xm X (.Assign [.Tuple [.Name x px, .Name y py] kt pt] (.Tuple [a, b] k2 pt2) pos) (sPar i j L f) :=
  PS.to (ps_par hc hN hi hj hij hx hy ha hw hs) fun Dn σ H ⟨B, ρ, F, r, k⟩ => aF.at r k fun ds vs H' F' r' dv _ k' => by
    split at k'
    · obtain ⟨v, w, rfl, d1, d2⟩ := dv.two
      exact ⟨v, w, rfl, k' _ _ _ ((r'.set d1).set d2)⟩
    · exact k'.elim
/-! ### x[k] = e: an own list, an own dict -/
def sPutL (i : Nat) (L : List Nat) (fv fk : VEnv → Res D) : Env → Out := fun ρ => eAt L fv ρ fun d => need i (fun ρ' => eAt [] fk ρ' fun n => match n with
  | .int n => chg ρ' i fun ds => match ixN ds.length n with
    | some j => some (ds.set j d)
    | none => none
  | _ => .bad) (aft L d ρ)
theorem shut_nil : ∀ (n : Nat) (ρ : Env), shutI [] n ρ = ρ
  | _, [] => rfl
  | n, none :: r => by rw [shutI, shut_nil (n + 1) r]; rfl
  | n, some (.frz d) :: r => by rw [shutI, shut_nil (n + 1) r]; rfl
  | n, some (.own t d) :: r => by rw [shutI, shut_nil (n + 1) r]; rfl
theorem aft_nil (d : D) (ρ : Env) : aft [] d ρ = ρ := by
  unfold aft shut
  rw [shut_nil, ite_self]
theorem fs_putL {x : Str} {e ik : Expr} {L : List Nat} {fv fk : VEnv → Res D} {p1 p2 pos : Pos} (i : Nat) (he : FE K xm X e fv) (hk : FE K xm X ik fk) (hN : X.N[i]? = some x := by rfl) (hv : Vis X.env.scope x := by first | exact Or.inl rfl | exact Or.inr (Or.inl rfl) | exact Or.inr (Or.inr rfl)) (hd : (x == ("__debug__" : Str)) = false := by decide)
    (hcd : (x == ("__classdict__" : Str)) = false := by decide) (ha : ∀ v, assign (.Subscript (.Name x p1) ik p2) X.env v = (do
      let ov ← holding [v] (eval (.Name x p1) X.env)
      let iv ← holding [v, ov] (eval ik X.env)
      standAt p2
      holding [v, ov, iv] (setItem ov iv v)
      release [v, ov, iv] []) := by intro _; rfl) (hs : swapsWithSole [.Subscript (.Name x p1) ik p2] e pos.line X.env = pure false := by rfl) (hw : swappedStores [.Subscript (.Name x p1) ik p2] e X.env = pure none := by rfl)
    (h1 : (assignEach [.Subscript (.Name x p1) ik p2] X.env).map (·.2) = [assign (.Subscript (.Name x p1) ik p2) X.env] := by rfl) : FS K xm X (.Assign [.Subscript (.Name x p1) ik p2] e pos) (sPutL i L fv fk) :=
  PS.to (ps_asg he (pg_sub (pv i hN hv hd hcd) hk set_list ha) hs hw h1) fun Dn σ H ⟨B, ρ, F, r, k⟩ => tF.at r k fun d v H' F' _ r' dv _ _ k' => by
    obtain ⟨⟨t, ds, hi⟩, k'⟩ := k'.needE
    obtain ⟨p, xs, q1, q2, q3, q4⟩ := r'.ownAt hi
    refine ⟨.ref p, q1, tF.at r' k' fun n w H2 F2 en r2 dw f2 h2 k2 => ?_⟩
    rw [aft_nil] at r2
    clear en
    split at k2
    · rename_i n
      obtain ⟨t', ds', es, h1, h3, k3⟩ := k2.chgE
      obtain ⟨p', xs', w1, w2, w3, w4⟩ := r2.ownAt h1
      rw [q1] at w1
      cases w1
      split at h3
      · rename_i j ej
        cases h3
        rw [dw.intE]
        exact ⟨p, xs', n, j, rfl, rfl, w2, by rw [w3.length]; exact ej, k3 _ _ _ (r2.write h1 q1 ⟨_, upd_same, DtAll.set (dv.same f2) _ w3⟩)⟩
      · cases h3
    · exact k2.elim
/-! dicts -/
noncomputable def dPut (kvs : List (D × D)) (k v : D) : List (D × D) := if (dGet kvs k).isSome = true then kvs.map (fun p => if p.1 = k then (p.1, v) else p) else kvs ++ [(k, v)]
def ownD (ρ : Env) (i : Nat) : Option (Bool × List (D × D)) := match ρ[i]? with
  | some (some (.own t (.dct false ds))) => some (t, ds)
  | _ => none
theorem ownD_of {ρ : Env} {i : Nat} {t : Bool} {ds : List (D × D)} (h : ownD ρ i = some (t, ds)) : ρ[i]? = some (some (.own t (.dct false ds))) := by
  unfold ownD at h
  split at h
  · rename_i e
    cases h
    exact e
  · cases h
def needD (i : Nat) (g : Env → Out) : Env → Out := fun ρ => match ownD ρ i with
  | some _ => g ρ
  | none => .bad
theorem So.needDE {i : Nat} {g : Env → Out} (k : So K xm B Dn (needD i g ρ)) : (∃ t ds, ρ[i]? = some (some (.own t (.dct false ds)))) ∧ So K xm B Dn (g ρ) := by
  unfold needD at k
  cases e : ownD ρ i with
  | none => rw [e] at k; exact k.elim
  | some td => rw [e] at k; exact ⟨⟨td.1, td.2, ownD_of e⟩, k⟩
def chgD (ρ : Env) (i : Nat) (f : List (D × D) → Option (List (D × D))) : Out := match ownD ρ i with
  | some (t, ds) => match f ds with
    | some es => .nx (ρ.set i (some (.own t (.dct false es))))
    | none => .bad
  | none => .bad
theorem So.chgDE {i : Nat} {f : List (D × D) → Option (List (D × D))} (k : So K xm B Dn (chgD ρ i f)) : ∃ t ds es, ρ[i]? = some (some (.own t (.dct false ds))) ∧ f ds = some es ∧ So K xm B Dn (.nx (ρ.set i (some (.own t (.dct false es))))) := by
  unfold chgD at k
  cases e : ownD ρ i with
  | none => rw [e] at k; exact k.elim
  | some td =>
    obtain ⟨t, ds⟩ := td
    rw [e] at k
    dsimp only at k
    cases e2 : f ds with
    | none => rw [e2] at k; exact k.elim
    | some es => rw [e2] at k; exact ⟨t, ds, es, ownD_of e, e2, k⟩
theorem Rl.ownDAt (r : Rl K B σ H ρ F) {i : Nat} {t : Bool} {ds : List (D × D)} (h : ρ[i]? = some (some (.own t (.dct false ds)))) : ∃ p kvs, σ[i]? = some (some (.ref p)) ∧ H p = some (.dK kvs) ∧ DtAll K F (kvs.map (·.2)) (ds.map (·.2)) ∧ ds.map (·.1) = kvs.map (fun p => keyD p.1) := by
  obtain ⟨p, q1, q2, q3, kvs, q4, q5, q6⟩ := r.ow i _ _ h
  exact ⟨p, kvs, q1, q4, q5, q6⟩
theorem repl_of {F : Hp} {k : Key} {v : V} {d : D} (hd : Dt K F v d) : ∀ {kvs : List (Key × V)} {ds : List (D × D)}, DtAll K F (kvs.map (·.2)) (ds.map (·.2)) → ds.map (·.1) = kvs.map (fun p => keyD p.1) →
    DtAll K F ((kvs.map fun kv => if kv.1 = k then (kv.1, v) else kv).map (·.2)) ((ds.map fun p => if p.1 = keyD k then (p.1, d) else p).map (·.2)) ∧ (ds.map fun p => if p.1 = keyD k then (p.1, d) else p).map (·.1) = (kvs.map fun kv => if kv.1 = k then (kv.1, v) else kv).map (fun p => keyD p.1)
  | [], [], _, _ => ⟨.nil, rfl⟩
  | [], _ :: _, _, e => by simp at e
  | _ :: _, [], _, e => by simp at e
  | p :: kvs, q :: ds, h, e => by
    simp only [List.map_cons] at h e
    cases h with
    | cons h1 h2 =>
      injection e with e1 e2
      obtain ⟨i1, i2⟩ := repl_of hd h2 e2
      simp only [List.map_cons]
      by_cases c : p.1 = k
      · have c' : q.1 = keyD k := by rw [e1, c]
        rw [if_pos c, if_pos c']
        exact ⟨.cons hd i1, by rw [i2, e1]⟩
      · have c' : ¬ q.1 = keyD k := fun z => c (keyD_inj (by rw [← e1, z]))
        rw [if_neg c, if_neg c']
        exact ⟨.cons h1 i1, by rw [i2, e1]⟩
theorem put_of {F : Hp} {k : Key} {v : V} {d : D} {kvs : List (Key × V)} {ds : List (D × D)} (hd : Dt K F v d) (h : DtAll K F (kvs.map (·.2)) (ds.map (·.2))) (e : ds.map (·.1) = kvs.map (fun p => keyD p.1)) :
    DtAll K F ((putK kvs k v).map (·.2)) ((dPut ds (keyD k) d).map (·.2)) ∧ (dPut ds (keyD k) d).map (·.1) = (putK kvs k v).map (fun p => keyD p.1) := by
  have g := (dGet_of (k := k) h e).2
  unfold dPut putK
  have v2 := valV_any k kvs
  by_cases c : (dGet ds (keyD k)).isSome = true
  · rw [if_pos c]
    rw [g, ← v2] at c
    rw [if_pos c]
    exact repl_of hd h e
  · rw [if_neg c]
    rw [g, ← v2] at c
    rw [if_neg c, List.map_append, List.map_append, List.map_append, List.map_append, e]
    exact ⟨h.app (.cons hd .nil), rfl⟩
noncomputable def sPutD (i : Nat) (L : List Nat) (fv fk : VEnv → Res D) : Env → Out := fun ρ => eAt L fv ρ fun d => needD i (fun ρ' => eAt [] fk ρ' fun n => chgD ρ' i fun ds => if (dKeyOk n && fit ds.length) = true then some (dPut ds n d) else none) (aft L d ρ)
theorem fs_putD {x : Str} {e ik : Expr} {L : List Nat} {fv fk : VEnv → Res D} {p1 p2 pos : Pos} (i : Nat) (hu : X.A.units + 1 < cLine) (he : FE K xm X e fv) (hk : FE K xm X ik fk) (hN : X.N[i]? = some x := by rfl) (hv : Vis X.env.scope x := by first | exact Or.inl rfl | exact Or.inr (Or.inl rfl) | exact Or.inr (Or.inr rfl)) (hd : (x == ("__debug__" : Str)) = false := by decide)
    (hcd : (x == ("__classdict__" : Str)) = false := by decide) (hs : swapsWith e (some (.Subscript (.Name x p1) ik p2)) pos.line X.env = pure false := by rfl) : FS K xm X (.Assign [.Subscript (.Name x p1) ik p2] e pos) (sPutD i L fv fk) :=
  PS.to (ps_dput hu (pv i hN hv hd hcd) hk he hs) fun Dn σ H ⟨B, ρ, F, r, k⟩ => tF.at r k fun d v H' F' _ r' dv _ _ k' => by
    obtain ⟨⟨t, ds, hi⟩, k'⟩ := k'.needDE
    obtain ⟨p, kvs, q1, q2, q3, q4⟩ := r'.ownDAt hi
    refine ⟨.ref p, q1, tF.at r' k' fun n w H2 F2 _ r2 dw f2 h2 k2 => ?_⟩
    rw [aft_nil] at r2
    obtain ⟨t', ds', es, h1, h3, k3⟩ := k2.chgDE
    obtain ⟨p', kvs', w1, w2, w3, w4⟩ := r2.ownDAt h1
    rw [q1] at w1
    cases w1
    by_cases c : (dKeyOk n && fit ds'.length) = true
    · rw [if_pos c] at h3
      cases h3
      rw [Bool.and_eq_true] at c
      obtain ⟨key, rfl, rfl⟩ := keyE dw c.1
      have lk : kvs'.length = ds'.length := by
        have := congrArg List.length w4
        rw [List.length_map, List.length_map] at this
        exact this.symm
      obtain ⟨z1, z2⟩ := put_of (k := key) (dv.same f2) w3 w4
      exact ⟨p, _, rfl, .k w2 (by rw [lk]; exact fit_line c.2), k3 _ _ _ (r2.write h1 q1 ⟨_, upd_same, z1, z2⟩)⟩
    · rw [if_neg c] at h3
      cases h3
/-! ### raise -/
def sRaise (x : Ex) : Env → Out := fun ρ => .ex x ρ
/-- may stand in an exception's field -/
def fmtOk : D → Bool
  | .non => true
  | .str y => Nat.ble y.length 900
  | .int i => decide (i.natAbs < 2 ^ 64)
  | _ => false
def sRaiseI (c f : Str) (L : List Nat) (fa : VEnv → Res D) : Env → Out := fun ρ => eAt L fa ρ fun d => if fmtOk d = true then .ex ⟨c, [(f, d)]⟩ (aft L d ρ) else .bad
theorem fs_raiseI0 {st : Stmt} {c f : Str} {L : List Nat} {fa : VEnv → Res D} : FS K none X st (sRaiseI c f L fa) := PS.to ps_never fun Dn σ H ⟨B, ρ, F, r, k⟩ => by
  unfold sRaiseI eAt at k
  split at k
  · dsimp only at k
    split at k
    · exact k
    · exact k
  · exact k
  · exact k
end
end Du

namespace Du
open PySem PySem.Spec PyProof.Rows L2
/-! ### a def whose body computes g -/
def ent (n np : Nat) (ds : List D) : Env := ds.map (fun d => some (.frz d)) ++ List.replicate (n - np) none
def outR : Out → Res D
  | .nx _ => .ok .non
  | .rt d _ => .ok d
  | .ro d _ => .ok d
  | .ex x _ => .exc x
  | _ => .bad
def runD (np n : Nat) (g : Env → Out) (ds : List D) : Res D := if ds.length = np then outR (g (ent n np ds)) else .bad
section
variable {P : Program} {w : World} {K : PySem.W.Frag} {mg : Str → Option Value} {base : Heap}
theorem start_get {N : List Str} {vs : List V} {i : Nat} {v : V} (h : vs[i]? = some v) : (L2.start N vs)[i]? = some (some v) := by
  unfold L2.start
  rw [List.getElem?_append_left (by rw [List.length_map]; exact (List.getElem?_eq_some_iff.mp h).1), List.getElem?_map, h]
  rfl
theorem ent_get {n np : Nat} {ds : List D} {i : Nat} {s : Slot} (h : (ent n np ds)[i]? = some (some s)) : ∃ d, ds[i]? = some d ∧ s = .frz d := by
  unfold ent at h
  by_cases hi : i < ds.length
  · rw [List.getElem?_append_left (by rw [List.length_map]; exact hi), List.getElem?_map] at h
    obtain ⟨d, h1, h2⟩ := Option.map_eq_some_iff.mp h
    cases h2
    exact ⟨d, h1, rfl⟩
  · rw [List.getElem?_append_right (by rw [List.length_map]; omega)] at h
    have := List.mem_of_getElem? h
    rw [List.mem_replicate] at this
    cases this.2
theorem Rl.start {N : List Str} {vs : List V} {ds : List D} {G H : Hp} {np : Nat} (s : Same G H) (h : DtAll K G vs ds) (hn : ds.length = np) (hN : np ≤ N.length) : Rl K ⟨H, G, 0⟩ (L2.start N vs) H (ent N.length np ds) G := by
  refine ⟨s, .refl _, fun a o u _ e => ⟨u, e⟩, ?_, fun i d e => ?_, fun i t d e => ?_, fun i j t u d e p h1 h2 => ?_, fun i d p h1 h2 => ?_⟩
  · unfold L2.start ent
    rw [List.length_append, List.length_append, List.length_map, List.length_map, List.length_replicate, List.length_replicate, h.length]
    omega
  · obtain ⟨d', h1, h2⟩ := ent_get e
    cases h2
    obtain ⟨v, q1, q2⟩ := h.at h1
    exact ⟨v, start_get q1, q2⟩
  · obtain ⟨d', h1, h2⟩ := ent_get e
    cases h2
  · obtain ⟨d', _, h2⟩ := ent_get h1
    cases h2
  · obtain ⟨d', _, h2⟩ := ent_get h1
    cases h2
theorem ExIs.same {F G : Hp} {x : Ex} {C : Value} {dd : Option Addr} (h : ExIs K mg x F C dd) (s : Same F G) : ExIs K mg x G C dd := by
  obtain ⟨h1, h2⟩ := h
  refine ⟨h1, ?_⟩
  split at h2
  · exact h2
  · obtain ⟨a, v, e, e2, e3⟩ := h2
    exact ⟨a, v, e, s _ _ e2, e3.same s⟩
  · exact h2
/-- what the promise says of the end -/
theorem Rl.done {G H H' F' : Hp} {σ : St} {ρ : Env} (r : Rl K ⟨H, G, 0⟩ σ H' ρ F') (s : Same G H) : ∃ G', Gr G H G' H' ∧ Same F' G' := by
  refine ⟨both F' G, ⟨r.bh, both_r r.fh (s.trans r.bh), both_in r.fh (s.trans r.bh), fun a o e => ?_⟩, both_l⟩
  rcases both_cases e with z | z
  · cases q : H a with
    | none => exact .inr rfl
    | some u =>
      obtain ⟨v, hv⟩ := r.zf a u o q z
      have e1 := r.fh _ _ z
      have e2 := (s.trans r.bh) _ _ hv
      rw [e1] at e2
      cases e2
      exact .inl hv
  · exact .inl z
theorem Rl.done2 {G H H' F' : Hp} {σ : St} {ρ : Env} {p : Addr} {d : D} (r : Rl K ⟨H, G, 0⟩ σ H' ρ F') (s : Same G H) (fp : F' p = none) (bp : H p = none) (ow : Ow K F' H' p d) : ∃ G', Gr G H G' H' ∧ G' p = none ∧ Ow K G' H' p d := by
  refine ⟨both F' G, ⟨r.bh, both_r r.fh (s.trans r.bh), both_in r.fh (s.trans r.bh), fun a o e => ?_⟩, both_none fp (s.free bp), ow.mono both_l fun _ h => h⟩
  rcases both_cases e with z | z
  · cases q : H a with
    | none => exact .inr rfl
    | some u =>
      obtain ⟨v, hv⟩ := r.zf a u o q z
      have e1 := r.fh _ _ z
      have e2 := (s.trans r.bh) _ _ hv
      rw [e1] at e2
      cases e2
      exact .inl hv
  · exact .inl z
theorem Rl.freeze {G H H' F' : Hp} {σ : St} {ρ : Env} {p : Addr} {d : D} (r : Rl K ⟨H, G, 0⟩ σ H' ρ F') (s : Same G H) (fp : F' p = none) (bp : H p = none) (ow : Ow K F' H' p d) : ∃ G', Gr G H G' H' ∧ Dt K G' (.ref p) d := by
  obtain ⟨G', g, gp, ow'⟩ := r.done2 s fp bp ow
  obtain ⟨o, ho⟩ := ow'.some
  exact ⟨_, g.freeze bp gp ho, ow'.dt (sm_upd gp) fun u hu => by rw [upd_same, ← hu, ho]⟩
theorem sp0_len {f : List D → Res D} {np n : Nat} {g : Env → Out} {vs : List V} {H : Hp} {Q : VK} {E : XK} (h : sp0 K (runD np n g) vs H Q E) : vs.length = np := by
  obtain ⟨ds, G, s, hd, d, e, _⟩ := h
  unfold runD at e
  by_cases hn : ds.length = np
  · rw [hd.length, hn]
  · rw [if_neg hn] at e
    cases e
theorem ok0 {x : Str} {st : Stmt} {N ps : List Str} {k : Nat} {g : Env → Out} (D : Dear.Df K mg x st ps) (S : FnScope N ps (defScope st))
    (body : ∀ (f : Addr) (cdv : Value) (A : Around) (outer : List PySem.Env) (s : Shared) (H : Hp) (E : XK), Room k (A.deeper (envOfC x (defScope st) s.heap.objs.size f cdv)) → FSs K none (cxOf CX0 P w K mg base N x (defScope st) f cdv A outer s H E).nox (defBody st) g)
    (hN : ps.length ≤ N.length := by decide) : Dear.OkF P w K mg base CX0 (k + 1) x ps (sp0 K (runD ps.length N.length g)) :=
  D.ok S (fun vs H Q E h => sp0_len (f := runD ps.length N.length g) h) fun f cdv A outer s H vs Q E hr h => ⟨_, body f cdv A outer s H E hr, by
    obtain ⟨ds, G, sG, hd, d, e, q⟩ := h
    unfold runD at e
    by_cases hn : ds.length = ps.length
    · rw [if_pos hn] at e
      refine ⟨⟨H, G, 0⟩, _, G, Rl.start sG hd hn hN, ?_⟩
      unfold outR at e
      cases e2 : g (ent N.length ps.length ds) with
      | nx ρ =>
        rw [e2] at e
        cases e
        intro σ' H' F' r
        obtain ⟨G', g1, d1⟩ := r.done sG
        exact q _ _ _ g1 .non
      | rt d' ρ =>
        rw [e2] at e
        cases e
        intro v σ' H' F' r dv
        obtain ⟨G', g1, d1⟩ := r.done sG
        exact q _ _ _ g1 (dv.same d1)
      | ro d' ρ =>
        rw [e2] at e
        cases e
        intro p σ' H' F' r fp bp ow
        obtain ⟨G', g1, d1⟩ := r.freeze sG fp bp ow
        exact q _ _ _ g1 d1
      | bk ρ => rw [e2] at e; cases e
      | ct ρ => rw [e2] at e; cases e
      | ex x ρ => rw [e2] at e; cases e
      | bad => rw [e2] at e; cases e
    · rw [if_neg hn] at e
      cases e⟩
end
end Du

namespace Du
open PySem PySem.Spec PyProof.Rows L2
/-! ### expressions that change the def's own things (a call that is handed one of them to be changed) -/
inductive MO (α : Type) where
  | ok (a : α) (ρ : Env)
  | ex (x : Ex) (ρ : Env)
  | bad
def MO.bind {α β : Type} (r : MO α) (f : α → Env → MO β) : MO β := match r with
  | .ok a ρ => f a ρ
  | .ex x ρ => .ex x ρ
  | .bad => .bad
section
variable {α β : Type}
@[simp] theorem MO.bind_ok (a : α) (ρ : Env) (f : α → Env → MO β) : (MO.ok a ρ).bind f = f a ρ := rfl
@[simp] theorem MO.bind_ex (x : Ex) (ρ : Env) (f : α → Env → MO β) : (MO.ex x ρ).bind f = .ex x ρ := rfl
@[simp] theorem MO.bind_bad (f : α → Env → MO β) : (MO.bad : MO α).bind f = .bad := rfl
end
/-- what a reading with state has to give -/
def Pm {α ω : Type} (R : Hp → ω → α → Prop) (K : PySem.W.Frag) (xm : XMo) (σ : St) (B : Bs) (F : Hp) (r : MO α) (Q : ω → Hp → Prop) : Prop := match r with
  | .ok a ρ => ∀ w H' F', Rl K B σ H' ρ F' → Same F F' → R F' w a → Q w H'
  | .ex x ρ => match xm with
    | none => False
    | some m => ∀ C dd H' F', Rl K B σ H' ρ F' → ExIs K m.mg x F' C dd → m.W C dd σ H'
  | .bad => False
section
variable {α β ω ω' : Type} {R : Hp → ω → α → Prop} {R' : Hp → ω' → β → Prop} {K : PySem.W.Frag} {xm : XMo} {σ : St} {B : Bs} {F F1 : Hp}
theorem Pm.mono {r : MO α} {Q : ω → Hp → Prop} (h : Pm R K xm σ B F r Q) (s : Same F F1) : Pm R K xm σ B F1 r Q := by
  cases r with
  | ok a ρ => exact fun w H' F' r' s' => h w H' F' r' (s.trans s')
  | ex x ρ => exact h
  | bad => exact h
theorem Pm.seq {r : MO α} {f : α → Env → MO β} {Q : ω' → Hp → Prop} {W : ω → Hp → Prop} (k : Pm R' K xm σ B F (r.bind f) Q) (n : ∀ a ρ w H1 F1, Rl K B σ H1 ρ F1 → Same F F1 → R F1 w a → Pm R' K xm σ B F1 (f a ρ) Q → W w H1) : Pm R K xm σ B F r W := by
  cases r with
  | ok a ρ => exact fun w H1 F1 r1 s d => n a ρ w H1 F1 r1 s d (Pm.mono k s)
  | ex x ρ => exact k
  | bad => exact k
theorem Pm.done {a : α} {ρ : Env} {w : ω} {H : Hp} {Q : ω → Hp → Prop} (k : Pm R K xm σ B F (.ok a ρ) Q) (r : Rl K B σ H ρ F) (h : R F w a) : Q w H := k w H F r (.refl _) h
end
def tM (K : PySem.W.Frag) (xm : XMo) (m : Env → MO D) : TE := fun σ H Q => ∃ B ρ F, Rl K B σ H ρ F ∧ Pm (RD K) K xm σ B F (m ρ) Q
def bM (K : PySem.W.Frag) (xm : XMo) (m : Env → MO Bool) : TT := fun σ H Q => ∃ B ρ F, Rl K B σ H ρ F ∧ Pm RB K xm σ B F (m ρ) Q
def aM (K : PySem.W.Frag) (xm : XMo) (m : Env → MO (List D)) : TA := fun σ H Q => ∃ B ρ F, Rl K B σ H ρ F ∧ Pm (RL K) K xm σ B F (m ρ) Q
abbrev ME (K : PySem.W.Frag) (xm : XMo) (X : Cx) (e : Expr) (m : Env → MO D) : Prop := PE X e (tM K xm m)
abbrev MT (K : PySem.W.Frag) (xm : XMo) (X : Cx) (e : Expr) (m : Env → MO Bool) : Prop := PT X e (bM K xm m)
abbrev MA (K : PySem.W.Frag) (xm : XMo) (X : Cx) (e : List Expr) (m : Env → MO (List D)) : Prop := PA X e (aM K xm m)
section
variable {K : PySem.W.Frag} {xm : XMo} {X : Cx} {B : Bs} {F H : Hp} {σ : St} {ρ : Env} {Dn : Ends}
/-! pure parts -/
def mP (L : List Nat) (f : VEnv → Res D) : Env → MO D := fun ρ => match f (view L ρ) with
  | .ok d => .ok d (aft L d ρ)
  | .exc x => .ex x (shut L ρ)
  | .bad => .bad
theorem exc_m {L : List Nat} {x : Ex} {α ω : Type} {R : Hp → ω → α → Prop} {Q : ω → Hp → Prop} (r : Rl K B σ H ρ F) (k : Pm R K xm σ B F (.ex x (shut L ρ)) Q) : Xw K xm σ (lend σ ρ L F H) H x := by
  cases xm with
  | none => exact k.elim
  | some m => exact fun C dd F' H' g e => k C dd H' F' (r.shutted g) e
theorem tM.p {L : List Nat} {f : VEnv → Res D} {Q : VK} (h : tM K xm (mP L f) σ H Q) : tF K xm f σ H Q := by
  obtain ⟨B, ρ, F, r, k⟩ := h
  refine ⟨_, _, r.lend_fh L, r.view L, ?_⟩
  unfold mP at k
  cases e : f (view L ρ) with
  | ok d =>
    rw [e] at k
    intro v F' H' g hd
    obtain ⟨F2, r2, h2, h3⟩ := r.aft g hd
    exact k v H' F2 r2 h3 h2
  | exc x =>
    rw [e] at k
    exact exc_m r k
  | bad => rw [e] at k; exact k.elim
theorem me_p {e : Expr} {L : List Nat} {f : VEnv → Res D} (h : FE K xm X e f) : ME K xm X e (mP L f) := PE.to h fun _ _ _ k => k.p
def mB (L : List Nat) (f : VEnv → Res Bool) : Env → MO Bool := fun ρ => match f (view L ρ) with
  | .ok d => .ok d ρ
  | .exc x => .ex x (shut L ρ)
  | .bad => .bad
/-! operators -/
def mOp (g : D → D → Res D) (ma mb : Env → MO D) : Env → MO D := fun ρ => (ma ρ).bind fun a ρ1 => (mb ρ1).bind fun b ρ2 => match g a b with
  | .ok d => .ok d ρ2
  | _ => .bad
/-- a pure rule behind parts with state -/
theorem Rl.pure (r : Rl K B σ H ρ F) {d : D} {Q : VK} (k : Pm (RD K) K xm σ B F (.ok d ρ) Q) : Po (RD K) K xm σ F H (.ok d) Q := fun v F' H' g hd => k v H' F' (r.grow g) g.ff hd
theorem tM.op {r : R2} {g : D → D → Res D} {ma mb : Env → MO D} (h : OpD K r g) {Q : VK} (k : tM K xm (mOp g ma mb) σ H Q) : tOp r (tM K xm ma) (tM K xm mb) σ H Q := by
  obtain ⟨B, ρ, F, r0, k⟩ := k
  refine ⟨B, ρ, F, r0, Pm.seq k fun a ρ1 x H1 F1 r1 s1 d1 k1 => ⟨B, ρ1, F1, r1, Pm.seq k1 fun b ρ2 y H2 F2 r2 s2 d2 k2 => ?_⟩⟩
  cases e : g a b with
  | ok d =>
    rw [e] at k2
    dsimp only at k2
    refine h xm σ F2 H2 x y a b Q r2.fh (d1.same s2) d2 ?_
    rw [e]
    exact r2.pure k2
  | exc x => rw [e] at k2; exact k2.elim
  | bad => rw [e] at k2; exact k2.elim
theorem me_op {a b : Expr} {op : Operator} {pos : Pos} {r : R2} {g : D → D → Res D} {ma mb : Env → MO D} (ho : OpR X (binaryOp op) r) (h : OpD K r g) (ha : ME K xm X a ma) (hb : ME K xm X b mb) : ME K xm X (.BinOp a op b pos) (mOp g ma mb) := PE.to (pe_op ho ha hb) fun _ _ _ k => k.op h
theorem me_cmp {a b : Expr} {op : CmpOp} {pos : Pos} {r : R2} {g : D → D → Res D} {ma mb : Env → MO D} (ho : OpR X (compareOp op) r) (h : OpD K r g) (ha : ME K xm X a ma) (hb : ME K xm X b mb) (hm : behindInMarks op b = false := by first | exact nomark _ | rfl) :
    ME K xm X (.Compare a [op] [b] pos) (mOp g ma mb) := PE.to (pe_cmpR ho ha hb hm) fun _ _ _ k => k.op h
theorem me_ix {a b : Expr} {pos : Pos} {r : R2} {g : D → D → Res D} {ma mb : Env → MO D} (hr : IxR X r) (h : OpD K r g) (ha : ME K xm X a ma) (hb : ME K xm X b mb) (hs : PlainIx b := by intro _ _; rfl) : ME K xm X (.Subscript a b pos) (mOp g ma mb) := PE.to (pe_ix hr ha hb hs) fun _ _ _ k => k.op h
/-! arguments, displays -/
def mNil : Env → MO (List D) := fun ρ => .ok [] ρ
def mCons (m : Env → MO D) (n : Env → MO (List D)) : Env → MO (List D) := fun ρ => (m ρ).bind fun a ρ1 => (n ρ1).bind fun as ρ2 => .ok (a :: as) ρ2
theorem ma_nil : MA K xm X [] mNil := PA.to pa_nil fun σ H Q ⟨B, ρ, F, r, k⟩ => k.done r .nil
theorem ma_cons {e : Expr} {es : List Expr} {m : Env → MO D} {n : Env → MO (List D)} (h : ME K xm X e m) (q : MA K xm X es n) (hs : starEach (e :: es) X.env = (false, eval e X.env) :: starEach es X.env := by rfl) : MA K xm X (e :: es) (mCons m n) :=
  PA.to (pa_cons h q hs) fun σ H Q ⟨B, ρ, F, r, k⟩ => ⟨B, ρ, F, r, Pm.seq k fun a ρ1 x H1 F1 r1 s1 d1 k1 => ⟨B, ρ1, F1, r1, Pm.seq k1 fun b ρ2 y H2 F2 r2 s2 d2 k2 => k2.done r2 (.cons (d1.same s2) d2)⟩⟩
/-- pure arguments -/
def mAP (L : List Nat) (f : VEnv → Res (List D)) : Env → MO (List D) := fun ρ => match f (view L ρ) with
  | .ok d => .ok d (aftL L d ρ)
  | .exc x => .ex x (shut L ρ)
  | .bad => .bad
theorem ma_p {e : List Expr} {L : List Nat} {f : VEnv → Res (List D)} (h : FA K xm X e f) : MA K xm X e (mAP L f) := PA.to h fun σ H Q ⟨B, ρ, F, r, k⟩ => by
  refine ⟨_, _, r.lend_fh L, r.view L, ?_⟩
  unfold mAP at k
  cases e : f (view L ρ) with
  | ok d =>
    rw [e] at k
    intro v F' H' g hd
    obtain ⟨F2, r2, h2, h3, _⟩ := r.aftL g hd
    exact k v H' F2 r2 h3 h2
  | exc x =>
    rw [e] at k
    exact exc_m r k
  | bad => rw [e] at k; exact k.elim
def mTup (m : Env → MO (List D)) : Env → MO D := fun ρ => (m ρ).bind fun as ρ1 => if fit as.length = true then .ok (.tup as) ρ1 else .bad
def mLst (m : Env → MO (List D)) : Env → MO D := fun ρ => (m ρ).bind fun as ρ1 => if fit as.length = true then .ok (.lst as) ρ1 else .bad
theorem Pm.ite {α ω : Type} {R : Hp → ω → α → Prop} {b : Bool} {r : MO α} {Q : ω → Hp → Prop} (k : Pm R K xm σ B F (if b = true then r else .bad) Q) : b = true ∧ Pm R K xm σ B F r Q := by
  cases b with
  | true => exact ⟨rfl, by rwa [if_pos rfl] at k⟩
  | false =>
    rw [if_neg Bool.false_ne_true] at k
    exact k.elim
theorem me_tup {es : List Expr} {kk : Nat} {pos : Pos} {m : Env → MO (List D)} (h : MA K xm X es m) : ME K xm X (.Tuple es kk pos) (mTup m) :=
  PE.to (pe_tup h) fun σ H Q ⟨B, ρ, F, r, k⟩ => ⟨B, ρ, F, r, Pm.seq k fun a ρ1 xs H1 F1 r1 s1 d1 k1 => by
    obtain ⟨f, k1⟩ := Pm.ite k1
    refine ⟨by rw [d1.length]; exact Nat.le_of_lt (fit_line f), fun p hp => ?_⟩
    have g := Gr.new (o := .tup xs) r1.fh hp
    exact k1 _ _ _ (r1.grow g) g.ff (.tup upd_same (d1.same g.ff))⟩
/-! pure calls of arguments with state -/
def mApp (g : List D → Res D) (m : Env → MO (List D)) : Env → MO D := fun ρ => (m ρ).bind fun as ρ1 => match g as with
  | .ok d => .ok d ρ1
  | _ => .bad
theorem me_callB {x : Str} {id : String} {r : List V → Hp → VK → Prop} {g : List D → Res D} {e : Expr} {es : List Expr} {p pos : Pos} {m : Env → MO (List D)} (hc : CallR X (.builtin id) r) (h : CallD K r g) (hm : X.mg x = none) (ha : MA K xm X (e :: es) m) (hg : Gl X x := by rfl) (hv : bootBuiltins x = some (.builtin id) := by decide +kernel)
    (hn : x ≠ "__name__" := by decide) (hdb : (x == ("__debug__" : Str)) = false := by decide) (he : starEach (e :: es) X.env = (false, eval e X.env) :: starEach es X.env := by rfl) (hpl : (backTo pos (starEach es X.env)).any (·.1) = false := by rfl) :
    ME K xm X (.Call (.Name x p) (e :: es) [] pos) (mApp g m) := PE.to (pe_callB hc hg hm hv ha hn hdb he hpl) fun σ H Q ⟨B, ρ, F, r, k⟩ => ⟨B, ρ, F, r, Pm.seq k fun ds ρ1 vs H1 F1 r1 s1 d1 k1 => by
    refine h xm σ F1 H1 vs ds Q r1.fh d1 ?_
    cases e : g ds with
    | ok d =>
      rw [e] at k1
      exact fun v G' H' g hd => k1 v H' G' (r1.grow g) g.ff hd
    | exc x => rw [e] at k1; exact k1.elim
    | bad => rw [e] at k1; exact k1.elim⟩
/-! tests -/
def mTest (m : Env → MO D) : Env → MO Bool := fun ρ => (m ρ).bind fun a ρ1 => match a with
  | .bl b => .ok b ρ1
  | _ => .bad
theorem mt_cmp {a b : Expr} {op : CmpOp} {pos : Pos} {r : R2} {g : D → D → Res D} {ma mb : Env → MO D} (ho : OpR X (compareOp op) r) (h : OpD K r g) (ha : ME K xm X a ma) (hb : ME K xm X b mb) (hm : behindInMarks op b = false := by first | exact nomark _ | rfl) :
    MT K xm X (.Compare a [op] [b] pos) (mTest (mOp g ma mb)) := PT.to (pt_cmpR ho ha hb hm) fun σ H Q ⟨B, ρ, F, r, k⟩ => tM.op h ⟨B, ρ, F, r, Pm.seq (R := RD K) k fun a ρ1 x H1 F1 r1 s1 d1 k1 => by
    cases a with
    | bl b =>
      refine ⟨b, d1.blE, ?_⟩
      exact Pm.done (R := RB) k1 r1 rfl
    | _ => exact k1.elim⟩
def mNot (m : Env → MO Bool) : Env → MO Bool := fun ρ => (m ρ).bind fun b ρ1 => .ok (!b) ρ1
def mAnd (m n : Env → MO Bool) : Env → MO Bool := fun ρ => (m ρ).bind fun b ρ1 => if b = true then n ρ1 else .ok false ρ1
def mOr (m n : Env → MO Bool) : Env → MO Bool := fun ρ => (m ρ).bind fun b ρ1 => if b = true then .ok true ρ1 else n ρ1
abbrev MW (K : PySem.W.Frag) (xm : XMo) (X : Cx) (e : Expr) (m : Env → MO Bool) : Prop := PW X e (bM K xm m)
end
end Du

namespace Du
open PySem PySem.Spec PyProof.Rows L2
/-! ### defs that return a new thing of the caller's own; defs that change a thing that is handed in -/
def outO : Out → Res D
  | .ro d _ => .ok d
  | .ex x _ => .exc x
  | _ => .bad
def runO (np n : Nat) (g : Env → Out) (ds : List D) : Res D := if ds.length = np then outO (g (ent n np ds)) else .bad
def spO (K : PySem.W.Frag) (f : List D → Res D) : Sp := fun vs H Q _ => ∃ ds G, Same G H ∧ DtAll K G vs ds ∧ ∃ d, f ds = .ok d ∧ ∀ p G' H', Gr G H G' H' → H p = none → G' p = none → Ow K G' H' p d → Q (.ref p) H'
section
variable {P : Program} {w : World} {K : PySem.W.Frag} {mg : Str → Option Value} {base : Heap}
theorem spO_len {np n : Nat} {g : Env → Out} {vs : List V} {H : Hp} {Q : VK} {E : XK} (h : spO K (runO np n g) vs H Q E) : vs.length = np := by
  obtain ⟨ds, G, s, hd, d, e, _⟩ := h
  unfold runO at e
  by_cases hn : ds.length = np
  · rw [hd.length, hn]
  · rw [if_neg hn] at e
    cases e
theorem okO {x : Str} {st : Stmt} {N ps : List Str} {k : Nat} {g : Env → Out} (D : Dear.Df K mg x st ps) (S : FnScope N ps (defScope st))
    (body : ∀ (f : Addr) (cdv : Value) (A : Around) (outer : List PySem.Env) (s : Shared) (H : Hp) (E : XK), Room k (A.deeper (envOfC x (defScope st) s.heap.objs.size f cdv)) → FSs K none (cxOf CX0 P w K mg base N x (defScope st) f cdv A outer s H E).nox (defBody st) g)
    (hN : ps.length ≤ N.length := by decide) : Dear.OkF P w K mg base CX0 (k + 1) x ps (spO K (runO ps.length N.length g)) :=
  D.ok S (fun vs H Q E h => spO_len h) fun f cdv A outer s H vs Q E hr h => ⟨_, body f cdv A outer s H E hr, by
    obtain ⟨ds, G, sG, hd, d, e, q⟩ := h
    unfold runO at e
    by_cases hn : ds.length = ps.length
    · rw [if_pos hn] at e
      refine ⟨⟨H, G, 0⟩, _, G, Rl.start sG hd hn hN, ?_⟩
      unfold outO at e
      cases e2 : g (ent N.length ps.length ds) with
      | ro d' ρ =>
        rw [e2] at e
        cases e
        intro p σ' H' F' r fp bp ow
        obtain ⟨G', g1, gp, ow'⟩ := r.done2 sG fp bp ow
        exact q p _ _ g1 bp gp ow'
      | nx ρ => rw [e2] at e; cases e
      | rt d ρ => rw [e2] at e; cases e
      | bk ρ => rw [e2] at e; cases e
      | ct ρ => rw [e2] at e; cases e
      | ex x ρ => rw [e2] at e; cases e
      | bad => rw [e2] at e; cases e
    · rw [if_neg hn] at e
      cases e⟩
/-- whoever wants no more than the value has it -/
theorem okO.ok0 {x : Str} {ps : List Str} {k : Nat} {f : List D → Res D} (h : Dear.OkF P w K mg base CX0 k x ps (spO K f)) : Dear.OkF P w K mg base CX0 k x ps (sp0 K f) := by
  obtain ⟨a, fd, h1, h2, h3, F⟩ := h
  refine ⟨a, fd, h1, h2, h3, F.imp fun vs H Q E ⟨ds, G, s, hd, d, e, q⟩ => ⟨ds, G, s, hd, d, e, fun p G' H' g hp gp ow => ?_⟩⟩
  obtain ⟨o, ho⟩ := ow.some
  exact q _ _ _ (g.freeze hp gp ho) (ow.dt (sm_upd gp) fun u hu => by rw [upd_same, ← hu, ho])
end
section
variable {K : PySem.W.Frag} {xm : XMo} {X : Cx} {B : Bs} {F H : Hp} {σ : St} {ρ : Env} {Dn : Ends}
theorem fw_call {x : Str} {k k' : Nat} {ps : List Str} {f : List D → Res D} {e : Expr} {es : List Expr} {p pos : Pos} {fa : VEnv → Res (List D)} (O : Dear.OkF X.prog X.w X.K X.mg X.base CX0 k x ps (spO K f)) (hr : Room k' X.A) (ha : FA K none X (e :: es) fa) (hk : k ≤ k' := by decide) (hg : Gl X x := by rfl)
    (hdb : (x == ("__debug__" : Str)) = false := by decide) (he : starEach (e :: es) X.env = (false, eval e X.env) :: starEach es X.env := by rfl) (hpl : (backTo pos (starEach es X.env)).any (·.1) = false := by rfl) : FW' K none X (.Call (.Name x p) (e :: es) [] pos) (eCall f fa) :=
  PE.to (Dear.pe_c O hr ha hk hg hdb he hpl) fun σ H Q ⟨F, ρ, sF, vw, k⟩ => ⟨F, ρ, sF, vw, PoW.seq k fun ds vs F1 H1 g1 d1 k1 => by
    refine ⟨ds, F1, g1.fh, by rw [List.append_nil]; exact d1, ?_⟩
    cases e : f ds with
    | ok d => rw [e] at k1; exact ⟨d, rfl, k1⟩
    | exc x => rw [e] at k1; exact k1.elim
    | bad => rw [e] at k1; exact k1.elim⟩
end
/-! a thing that is handed in is changed: the j-th one -/
structure Gx (p : Addr) (F H F' H' : Hp) : Prop where
  hh : ∀ a o, a ≠ p → H a = some o → H' a = some o
  ff : Same F F'
  fh : Same F' H'
  nw : ∀ a o, F' a = some o → F a = some o ∨ H a = none
def spIO (K : PySem.W.Frag) (j : Nat) (f : List D → Res (D × D)) : Sp := fun vs H Q _ => ∃ ds G p o, Same G H ∧ vs.length = ds.length ∧ (∀ i v, i ≠ j → vs[i]? = some v → ∃ d, ds[i]? = some d ∧ Dt K G v d) ∧ vs[j]? = some (.ref p) ∧ ds[j]? = some o ∧ G p = none ∧ Ow K G H p o ∧
  ∃ d o', f ds = .ok (d, o') ∧ ∀ v G' H', Gx p G H G' H' → Dt K G' v d → Ow K G' H' p o' → Q v H'
section
variable {K : PySem.W.Frag} {xm : XMo} {X : Cx} {B : Bs} {F H : Hp} {σ : St} {ρ : Env} {Dn : Ends}
/-- behind the change of an own thing -/
theorem Rl.changed (r : Rl K B σ H ρ F) {i : Nat} {t : Bool} {p : Addr} {d d' : D} {F' H' : Hp} (hi : ρ[i]? = some (some (.own t d))) (hp : σ[i]? = some (some (.ref p))) (g : Gx p F H F' H') (h : Ow K F' H' p d') : Rl K B σ H' (ρ.set i (some (.own t d'))) F' := by
  obtain ⟨p', q1, q2, q3, q4⟩ := r.ow i _ d hi
  rw [hp] at q1
  cases q1
  have fn : ∀ {a : Addr}, F a = none → (∃ o, H a = some o) → F' a = none := fun {a} fa ⟨o, ho⟩ => by
    cases e : F' a with
    | none => rfl
    | some u =>
      rcases g.nw _ _ e with z | z
      · rw [fa] at z; cases z
      · rw [ho] at z; cases z
  refine ⟨g.fh, fun a u e => g.hh a u (fun z => by rw [z, q3] at e; cases e) (r.bh _ _ e), fun a o u e1 e2 => ?_, by rw [List.length_set, r.len], fun j e he => ?_, fun j t2 e he => ?_, fun j k t1 t2 d1 d2 p' h1 h2 h3 h4 => ?_, fun j e p' h1 h2 => ?_⟩
  · rcases g.nw _ _ e2 with z | z
    · exact r.zf _ _ _ e1 z
    · rw [r.bh _ _ e1] at z; cases z
  · rcases set_cases he with ⟨rfl, q, _⟩ | ⟨hj, q⟩
    · cases q
    · obtain ⟨v, w1, w2⟩ := r.fz j e q
      exact ⟨v, w1, w2.same g.ff⟩
  · rcases set_cases he with ⟨rfl, q, _⟩ | ⟨hj, q⟩
    · cases q
      exact ⟨p, hp, fn q2 q4.some, q3, h⟩
    · obtain ⟨p', w1, w2, w3, w4⟩ := r.ow j _ e q
      refine ⟨p', w1, fn w2 w4.some, w3, w4.mono g.ff fun u hu => g.hh _ _ (fun z => hj ?_) hu⟩
      subst z
      exact r.dj i j _ _ _ _ _ hi q hp w1
  · rcases set_cases h1 with ⟨rfl, q, _⟩ | ⟨hj, q⟩
    · rcases set_cases h2 with ⟨rfl, q', _⟩ | ⟨hk, q'⟩
      · rfl
      · exact r.dj _ k _ _ _ _ p' hi q' h3 h4
    · rcases set_cases h2 with ⟨rfl, q', _⟩ | ⟨hk, q'⟩
      · exact r.dj j _ _ _ _ _ p' q hi h3 h4
      · exact r.dj j k _ _ _ _ p' q q' h3 h4
  · rcases set_cases h1 with ⟨rfl, q, _⟩ | ⟨hj, q⟩
    · cases q
      exact r.pn _ _ _ hi h2
    · exact r.pn j e p' q h2
/-- arguments of which the j-th is the thing at slot i, the others computed -/
def RIO (K : PySem.W.Frag) (j : Nat) (p : Addr) : Hp → List V → List D → Prop := fun F' vs ds => ∃ ws, DtAll K F' ws ds ∧ j ≤ ws.length ∧ vs = ws.insertIdx j (.ref p)
def aIO (K : PySem.W.Frag) (xm : XMo) (j i : Nat) (m : Env → MO (List D)) : TA := fun σ H Q => ∃ B ρ F p, Rl K B σ H ρ F ∧ σ[i]? = some (some (.ref p)) ∧ Pm (RIO K j p) K xm σ B F (m ρ) Q
theorem mio_here {x : Str} {p1 : Pos} {es : List Expr} {m : Env → MO (List D)} (i : Nat) (h : MA K xm X es m) (hN : X.N[i]? = some x := by rfl) (hv : Vis X.env.scope x := by first | exact Or.inl rfl | exact Or.inr (Or.inl rfl) | exact Or.inr (Or.inr rfl)) (hd : (x == ("__debug__" : Str)) = false := by decide)
    (hcd : (x == ("__classdict__" : Str)) = false := by decide) (hs : starEach (.Name x p1 :: es) X.env = (false, eval (.Name x p1) X.env) :: starEach es X.env := by rfl) : PA X (.Name x p1 :: es) (aIO K xm 0 i m) :=
  PA.to (pa_cons (pv i hN hv hd hcd) h hs) fun σ H Q ⟨B, ρ, F, p, r, hp, k⟩ => ⟨.ref p, hp, B, ρ, F, r, Pm.seq (R' := RIO K 0 p) (f := fun a ρ => .ok a ρ) (by
    cases e : m ρ with
    | ok a ρ1 => rw [e] at k; exact k
    | ex x ρ1 => rw [e] at k; exact k
    | bad => rw [e] at k; exact k) fun a ρ1 vs H1 F1 r1 s1 d1 k1 => k1.done r1 ⟨vs, d1, Nat.zero_le _, rfl⟩⟩
/-- f(.., x, ..), x changed -/
def ownS (ρ : Env) (i : Nat) : Option (Bool × D) := match ρ[i]? with
  | some (some (.own t o)) => some (t, o)
  | _ => none
theorem ownS_of {ρ : Env} {i : Nat} {t : Bool} {o : D} (h : ownS ρ i = some (t, o)) : ρ[i]? = some (some (.own t o)) := by
  unfold ownS at h
  split at h
  · rename_i e
    cases h
    exact e
  · cases h
def mIO (j i : Nat) (f : List D → Res (D × D)) (m : Env → MO (List D)) : Env → MO D := fun ρ => match ownS ρ i with
  | some _ => (m ρ).bind fun as ρ1 => match ownS ρ1 i with
    | some (t, o) => match f (as.insertIdx j o) with
      | .ok r => .ok r.1 (ρ1.set i (some (.own t r.2)))
      | _ => .bad
    | none => .bad
  | none => .bad
theorem me_io {x : Str} {k k' : Nat} {ps : List Str} {j i : Nat} {f : List D → Res (D × D)} {e : Expr} {es : List Expr} {p pos : Pos} {m : Env → MO (List D)} (O : Dear.OkF X.prog X.w X.K X.mg X.base CX0 k x ps (spIO K j f)) (hr : Room k' X.A) (ha : PA X (e :: es) (aIO K xm j i m)) (hk : k ≤ k' := by decide) (hg : Gl X x := by rfl)
    (hdb : (x == ("__debug__" : Str)) = false := by decide) (he : starEach (e :: es) X.env = (false, eval e X.env) :: starEach es X.env := by rfl) (hpl : (backTo pos (starEach es X.env)).any (·.1) = false := by rfl) : ME K xm X (.Call (.Name x p) (e :: es) [] pos) (mIO j i f m) :=
  PE.to (Dear.pe_c O hr ha hk hg hdb he hpl) fun σ H Q ⟨B, ρ, F, r, k⟩ => by
    unfold mIO at k
    cases e0 : ownS ρ i with
    | none => rw [e0] at k; exact k.elim
    | some o0 =>
      obtain ⟨t0, o0⟩ := o0
      rw [e0] at k
      obtain ⟨p, hp, _⟩ := r.ow i _ _ (ownS_of e0)
      refine ⟨B, ρ, F, p, r, hp, Pm.seq (R' := RD K) k fun as ρ1 vs H1 F1 r1 s1 ⟨ws, d1, lw, ev⟩ k1 => ?_⟩
      cases e1 : ownS ρ1 i with
      | none => rw [e1] at k1; exact k1.elim
      | some o =>
        obtain ⟨t, o⟩ := o
        rw [e1] at k1
        dsimp only at k1
        obtain ⟨p', hp', q2, q3, q4⟩ := r1.ow i _ _ (ownS_of e1)
        rw [hp] at hp'
        cases hp'
        cases e2 : f (as.insertIdx j o) with
        | exc x => rw [e2] at k1; exact k1.elim
        | bad => rw [e2] at k1; exact k1.elim
        | ok rr =>
          rw [e2] at k1
          dsimp only at k1
          have la := d1.length
          refine ⟨as.insertIdx j o, F1, p, o, r1.fh, ?_, fun n v hn hv => ?_, ?_, ?_, q2, q4, rr.1, rr.2, e2, fun v G' H' g dv ow => k1 v H' G' (r1.changed (ownS_of e1) hp g ow) g.ff dv⟩
          · rw [ev, List.append_nil, List.length_insertIdx, List.length_insertIdx, la]
          · rw [ev, List.append_nil, List.getElem?_insertIdx] at hv
            rw [List.getElem?_insertIdx]
            by_cases c1 : n < j
            · rw [if_pos c1] at hv ⊢
              exact d1.get hv
            · rw [if_neg c1, if_neg hn] at hv ⊢
              exact d1.get hv
          · rw [ev, List.append_nil, List.getElem?_insertIdx, if_neg (Nat.lt_irrefl _), if_pos rfl, if_pos lw]
          · rw [List.getElem?_insertIdx, if_neg (Nat.lt_irrefl _), if_pos rfl, if_pos (by omega)]
end
/-! such a def -/
def entIO (n np j : Nat) (ds : List D) : Env := match ds[j]? with
  | some o => (ent n np ds).set j (some (.own true o))
  | none => []
def outIO (j : Nat) : Out → Res (D × D)
  | .nx ρ => match ownS ρ j with
    | some (true, o) => .ok (.non, o)
    | _ => .bad
  | .rt d ρ => match ownS ρ j with
    | some (true, o) => .ok (d, o)
    | _ => .bad
  | _ => .bad
def runIO (np n j : Nat) (g : Env → Out) (ds : List D) : Res (D × D) := if ds.length = np then outIO j (g (entIO n np j ds)) else .bad
section
variable {P : Program} {w : World} {K : PySem.W.Frag} {mg : Str → Option Value} {base : Heap}
theorem Rl.startIO {N : List Str} {vs : List V} {ds : List D} {G H : Hp} {np j : Nat} {p : Addr} {o : D} (s : Same G H) (hl : vs.length = ds.length) (h : ∀ i v, i ≠ j → vs[i]? = some v → ∃ d, ds[i]? = some d ∧ Dt K G v d) (hp : vs[j]? = some (.ref p)) (ho : ds[j]? = some o) (gp : G p = none) (ow : Ow K G H p o) (hn : ds.length = np) (hN : np ≤ N.length) :
    Rl K ⟨fun a => if a = p then none else H a, G, p⟩ (L2.start N vs) H (entIO N.length np j ds) G := by
  have ee : entIO N.length np j ds = (ent N.length np ds).set j (some (.own true o)) := by unfold entIO; rw [ho]
  rw [ee]
  refine ⟨s, fun a u e => ?_, fun a o u _ e => ⟨u, e⟩, ?_, fun i d e => ?_, fun i t d e => ?_, fun i j' t u d e q h1 h2 h3 h4 => ?_, fun i d q h1 h2 => ?_⟩
  · have e : (if a = p then none else H a) = some u := e
    split at e
    · cases e
    · exact e
  · unfold L2.start ent
    rw [List.length_set, List.length_append, List.length_append, List.length_map, List.length_map, List.length_replicate, List.length_replicate, hl]
    omega
  · rcases set_cases e with ⟨rfl, q, _⟩ | ⟨hi, q⟩
    · cases q
    · obtain ⟨d', h1, h2⟩ := ent_get q
      cases h2
      have hi2 : i < vs.length := by rw [hl]; exact (List.getElem?_eq_some_iff.mp h1).1
      obtain ⟨d2, q1, q2⟩ := h i vs[i] (Ne.symm hi) (List.getElem?_eq_getElem hi2)
      rw [h1] at q1
      cases q1
      exact ⟨_, start_get (List.getElem?_eq_getElem hi2), q2⟩
  · rcases set_cases e with ⟨rfl, q, _⟩ | ⟨hi, q⟩
    · cases q
      exact ⟨p, start_get hp, gp, if_pos rfl, ow⟩
    · obtain ⟨d', _, h2⟩ := ent_get q
      cases h2
  · rcases set_cases h1 with ⟨rfl, q, _⟩ | ⟨hi, q⟩
    · rcases set_cases h2 with ⟨rfl, q, _⟩ | ⟨hi, q⟩
      · rfl
      · obtain ⟨d', _, h2⟩ := ent_get q
        cases h2
    · obtain ⟨d', _, h2⟩ := ent_get q
      cases h2
  · rcases set_cases h1 with ⟨rfl, q', _⟩ | ⟨hi, q'⟩
    · rw [start_get hp] at h2
      cases h2
      rfl
    · obtain ⟨d', _, h2⟩ := ent_get q'
      cases h2
theorem Rl.doneIO {G H H' F' : Hp} {σ : St} {ρ : Env} {p : Addr} {o : D} (r : Rl K ⟨fun a => if a = p then none else H a, G, p⟩ σ H' ρ F') (s : Same G H) (gp : G p = none) (hp : ∃ u, H p = some u) (fp : F' p = none) (ow : Ow K F' H' p o) : ∃ G', Gx p G H G' H' ∧ Same F' G' ∧ Ow K G' H' p o := by
  have sG : Same G H' := fun a u e => by
    have ne : a ≠ p := fun z => by rw [z, gp] at e; cases e
    refine r.bh a u ?_
    show (if a = p then none else H a) = some u
    rw [if_neg ne]
    exact s _ _ e
  refine ⟨both F' G, ⟨fun a u ne e => r.bh a u (by show (if a = p then none else H a) = some u; rw [if_neg ne]; exact e), both_r r.fh sG, both_in r.fh sG, fun a u e => ?_⟩, both_l, ow.mono both_l fun _ h => h⟩
  rcases both_cases e with z | z
  · cases q : H a with
    | none => exact .inr rfl
    | some t =>
      have ne : a ≠ p := fun y => by rw [y, fp] at z; cases z
      obtain ⟨v, hv⟩ := r.zf a t u (by show (if a = p then none else H a) = some t; rw [if_neg ne]; exact q) z
      have e1 := r.fh _ _ z
      have e2 := sG _ _ hv
      rw [e1] at e2
      cases e2
      exact .inl hv
  · exact .inl z
theorem okIO {x : Str} {st : Stmt} {N ps : List Str} {k : Nat} {g : Env → Out} (j : Nat) (D : Dear.Df K mg x st ps) (S : FnScope N ps (defScope st))
    (body : ∀ (f : Addr) (cdv : Value) (A : Around) (outer : List PySem.Env) (s : Shared) (H : Hp) (E : XK), Room k (A.deeper (envOfC x (defScope st) s.heap.objs.size f cdv)) → FSs K none (cxOf CX0 P w K mg base N x (defScope st) f cdv A outer s H E).nox (defBody st) g)
    (hN : ps.length ≤ N.length := by decide) : Dear.OkF P w K mg base CX0 (k + 1) x ps (spIO K j (runIO ps.length N.length j g)) :=
  D.ok S (fun vs H Q E h => by
    obtain ⟨ds, G, p, o, s, hl, _, _, _, _, _, d, o', e, _⟩ := h
    unfold runIO at e
    by_cases hn : ds.length = ps.length
    · rw [hl, hn]
    · rw [if_neg hn] at e
      cases e) fun f cdv A outer s H vs Q E hr h => ⟨_, body f cdv A outer s H E hr, by
    obtain ⟨ds, G, p, o, sG, hl, hd, hp, ho, gp, ow, d, o', e, q⟩ := h
    unfold runIO at e
    by_cases hn : ds.length = ps.length
    · rw [if_pos hn] at e
      refine ⟨_, _, G, Rl.startIO sG hl hd hp ho gp ow hn hN, ?_⟩
      obtain ⟨u, hu⟩ := ow.some
      unfold outIO at e
      cases e2 : g (entIO N.length ps.length j ds) with
      | nx ρ =>
        rw [e2] at e
        dsimp only at e
        intro σ' H' F' r
        cases e3 : ownS ρ j with
        | none => rw [e3] at e; cases e
        | some tq =>
          obtain ⟨t, o2⟩ := tq
          cases t with
          | false => rw [e3] at e; cases e
          | true =>
            rw [e3] at e
            cases e
            obtain ⟨p', w1, w2, w3, w4⟩ := r.ow j _ _ (ownS_of e3)
            have := r.pn j _ _ (ownS_of e3) w1
            subst this
            obtain ⟨G', g1, s1, ow1⟩ := r.doneIO sG gp ⟨u, hu⟩ w2 w4
            exact q _ _ _ g1 .non ow1
      | rt d' ρ =>
        rw [e2] at e
        dsimp only at e
        intro v σ' H' F' r dv
        cases e3 : ownS ρ j with
        | none => rw [e3] at e; cases e
        | some tq =>
          obtain ⟨t, o2⟩ := tq
          cases t with
          | false => rw [e3] at e; cases e
          | true =>
            rw [e3] at e
            cases e
            obtain ⟨p', w1, w2, w3, w4⟩ := r.ow j _ _ (ownS_of e3)
            have := r.pn j _ _ (ownS_of e3) w1
            subst this
            obtain ⟨G', g1, s1, ow1⟩ := r.doneIO sG gp ⟨u, hu⟩ w2 w4
            exact q _ _ _ g1 (dv.same s1) ow1
      | ro d ρ => rw [e2] at e; cases e
      | bk ρ => rw [e2] at e; cases e
      | ct ρ => rw [e2] at e; cases e
      | ex x ρ => rw [e2] at e; cases e
      | bad => rw [e2] at e; cases e
    · rw [if_neg hn] at e
      cases e⟩
end
end Du

namespace Du
open PySem PySem.Spec PyProof.Rows L2
section
variable {K : PySem.W.Frag} {xm : XMo} {X : Cx} {B : Bs} {F H : Hp} {σ : St} {ρ : Env} {Dn : Ends}
/-! ### statements over expressions with state -/
def mAt {α : Type} (m : Env → MO α) (ρ : Env) (k : α → Env → Out) : Out := match m ρ with
  | .ok a ρ1 => k a ρ1
  | .ex x ρ1 => .ex x ρ1
  | .bad => .bad
theorem pm_at {α ω : Type} {R : Hp → ω → α → Prop} {m : Env → MO α} {k : α → Env → Out} {Q : ω → Hp → Prop} (r : Rl K B σ H ρ F) (h : So K xm B Dn (mAt m ρ k)) (n : ∀ a ρ1 w H' F', Rl K B σ H' ρ1 F' → R F' w a → Same F F' → So K xm B Dn (k a ρ1) → Q w H') : Pm R K xm σ B F (m ρ) Q := by
  unfold mAt at h
  cases e : m ρ with
  | ok a ρ1 =>
    rw [e] at h
    exact fun w H' F' r' s d => n a ρ1 w H' F' r' d s h
  | ex x ρ1 =>
    rw [e] at h
    cases xm with
    | none => exact h
    | some m => exact fun C dd H' F' r' hx => h C dd σ H' F' r' hx
  | bad => rw [e] at h; exact h
def sAsgM (m : Env → MO D) (tg : Tgt) : Env → Out := fun ρ => mAt m ρ fun d ρ1 => match tg d with
  | .ok as => .nx (setS ρ1 as)
  | _ => .bad
theorem fs_asgM {tg e : Expr} {m : Env → MO D} {g : Tgt} {pos : Pos} (he : ME K xm X e m) (hg : FG K X tg g) (hs : swapsWithSole [tg] e pos.line X.env = pure false := by rfl) (hw : swappedStores [tg] e X.env = pure none := by rfl)
    (h1 : (assignEach [tg] X.env).map (·.2) = [assign tg X.env] := by rfl) : FS K xm X (.Assign [tg] e pos) (sAsgM m g) :=
  PS.to (ps_asg he hg hs hw h1) fun Dn σ H ⟨B, ρ, F, r, k⟩ => ⟨B, ρ, F, r, pm_at r k fun d ρ1 v H' F' r' dv _ k' => by
    cases e : g d with
    | ok as =>
      rw [e] at k'
      exact ⟨F', d, as, r'.fh, dv, e, fun bs hb => k' _ _ _ (r'.setAll hb)⟩
    | exc x => rw [e] at k'; exact k'.elim
    | bad => rw [e] at k'; exact k'.elim⟩
def sExprM (m : Env → MO D) : Env → Out := fun ρ => mAt m ρ fun _ ρ1 => .nx ρ1
def sRetM (m : Env → MO D) : Env → Out := fun ρ => mAt m ρ fun d ρ1 => .rt d ρ1
def sIfM (m : Env → MO Bool) (g h : Env → Out) : Env → Out := fun ρ => mAt m ρ fun b ρ1 => if b = true then g ρ1 else h ρ1
theorem fs_ifM {c : Expr} {a b : List Stmt} {m : Env → MO Bool} {g h : Env → Out} {pos : Pos} (hc : MT K xm X c m) (ha : FSs K xm X a g) (hb : FSs K xm X b h) : FS K xm X (.If c a b pos) (sIfM m g h) :=
  PS.to (ps_if hc ha hb) fun Dn σ H ⟨B, ρ, F, r, k⟩ => ⟨B, ρ, F, r, pm_at (R := RB) r k fun b ρ1 w H' F' r' e _ k' => by
    subst e
    cases w with
    | true => exact iteT ⟨B, ρ1, F', r', by rwa [if_pos rfl] at k'⟩
    | false => exact iteF ⟨B, ρ1, F', r', by rwa [if_neg Bool.false_ne_true] at k'⟩⟩
def sAppM (i : Nat) (m : Env → MO D) : Env → Out := fun ρ => mAt m ρ fun d ρ1 => chg ρ1 i fun ds => if fit ds.length = true then some (ds ++ [d]) else none
theorem fs_appM {x : Str} {e : Expr} {m : Env → MO D} {p1 apos cpos pos : Pos} (i : Nat) (he : ME K xm X e m) (hN : X.N[i]? = some x := by rfl) (hv : Vis X.env.scope x := by first | exact Or.inl rfl | exact Or.inr (Or.inl rfl) | exact Or.inr (Or.inr rfl)) (hd : (x == ("__debug__" : Str)) = false := by decide)
    (hcd : (x == ("__classdict__" : Str)) = false := by decide) (hbase : attributeBase (.Name x p1) "append" X.env (eval (.Name x p1) X.env) = eval (.Name x p1) X.env := by rfl)
    (hfew : ((backTo cpos (starEach [e] X.env)).all (fun x => !x.1) && (backToKw cpos (keywordEach [] X.env)).all (fun x => x.1.isSome) && decide (([e] : List Expr).length + ([] : List Keyword).length + (if ([] : List Keyword).isEmpty then 0 else 1) < 30)) = true := by rfl)
    (hline : (apos.endLine == cpos.line) = true := by rfl) (hs : starEach [e] X.env = (false, eval e X.env) :: starEach [] X.env := by rfl) (hplain : (backTo cpos (starEach [] X.env)).any (·.1) = false := by rfl)
    (hsw : swapsWith (.Call (.Attribute (.Name x p1) "append" apos) [e] [] cpos) none pos.line X.env = pure false := by rfl) : FS K xm X (.Expr (.Call (.Attribute (.Name x p1) "append" apos) [e] [] cpos) pos) (need i (sAppM i m)) :=
  PS.to (ps_expr (pe_bm PySem.F.plainAttrs_list PySem.F.slot_list_append PySem.F.type_list_append mt_append (pv i hN hv hd hcd) (pa_cons he pa_nil hs) hbase hfew hline hs hplain) hsw) fun Dn σ H ⟨B, ρ, F, r, k⟩ => by
    obtain ⟨⟨t, ds, hi⟩, k⟩ := k.needE
    obtain ⟨p, xs, q1, q2, q3, q4⟩ := r.ownAt hi
    refine ⟨.ref p, q1, .inl ⟨rfl, _, SqL.of q2⟩, B, ρ, F, r, pm_at (R := RD K) r k fun d ρ1 v H' F' r' dv _ k' => ?_⟩
    obtain ⟨t', ds', es, h1, h2, k2⟩ := k'.chgE
    obtain ⟨p', xs', w1, w2, w3, w4⟩ := r'.ownAt h1
    rw [q1] at w1
    cases w1
    by_cases f : fit ds'.length = true
    · rw [if_pos f] at h2
      cases h2
      refine ⟨p, xs', v, rfl, rfl, w2, by rw [w3.length]; exact fit_line f, k2 _ _ _ (r'.write h1 q1 ⟨_, upd_same, w3.app (.cons dv .nil)⟩)⟩
    · rw [if_neg f] at h2
      cases h2
/-! x[k] = e, e with state -/
def sPutLM (i : Nat) (m : Env → MO D) (fk : VEnv → Res D) : Env → Out := fun ρ => mAt m ρ fun d ρ1 => need i (fun ρ' => eAt [] fk ρ' fun n => match n with
  | .int n => chg ρ' i fun ds => match ixN ds.length n with
    | some j => some (ds.set j d)
    | none => none
  | _ => .bad) ρ1
/-! ### comprehensions whose parts have state -/
def wipeS (ρ : Env) : List Nat → Env
  | [] => ρ
  | v :: vs => (wipeS ρ vs).set v none
theorem wipeS_get (σ : Env) (j : Nat) : ∀ vs : List Nat, (wipeS σ vs)[j]? = if j ∈ vs then σ[j]?.map (fun _ => none) else σ[j]?
  | [] => by simp [wipeS]
  | v :: vs => by
    unfold wipeS
    have wl : ∀ vs : List Nat, (wipeS σ vs).length = σ.length := by
      intro vs
      induction vs with
      | nil => rfl
      | cons a r ih => unfold wipeS; rw [List.length_set, ih]
    rw [List.getElem?_set]
    by_cases h : v = j
    · subst h
      rw [if_pos rfl, if_pos List.mem_cons_self, wl]
      by_cases hl : v < σ.length
      · rw [if_pos hl, List.getElem?_eq_getElem hl]; rfl
      · rw [if_neg hl, List.getElem?_eq_none (by omega)]; rfl
    · rw [if_neg h, wipeS_get σ j vs]
      have : (j ∈ v :: vs) ↔ j ∈ vs := ⟨fun q => (List.mem_cons.mp q).elim (fun e => absurd e.symm h) id, List.mem_cons_of_mem _⟩
      by_cases hj : j ∈ vs
      · rw [if_pos hj, if_pos (this.mpr hj)]
      · rw [if_neg hj, if_neg fun q => hj (this.mp q)]
theorem wipeS_len (σ : Env) : ∀ vs : List Nat, (wipeS σ vs).length = σ.length
  | [] => rfl
  | a :: r => by unfold wipeS; rw [List.length_set, wipeS_len σ r]
/-- slots of other values outside of those that are forgotten -/
theorem Rl.other {σ' : St} (r : Rl K B σ H ρ F) {vs : List Nat} (hw : wipe σ' vs = wipe σ vs) : Rl K B σ' H (wipeS ρ vs) F := by
  have g : ∀ {i : Nat} {s : Slot}, (wipeS ρ vs)[i]? = some (some s) → ρ[i]? = some (some s) ∧ σ'[i]? = σ[i]? := fun {i s} e => by
    rw [wipeS_get] at e
    by_cases hj : i ∈ vs
    · rw [if_pos hj] at e
      obtain ⟨a, h1, h2⟩ := Option.map_eq_some_iff.mp e
      cases h2
    · rw [if_neg hj] at e
      have := congrArg (fun l => l[i]?) hw
      simp only [wipe_get, if_neg hj] at this
      exact ⟨e, this⟩
  have hl : σ'.length = σ.length := by
    have := congrArg List.length hw
    rwa [wipe_length, wipe_length] at this
  refine ⟨r.fh, r.bh, r.zf, by rw [hl, wipeS_len, r.len], fun i d e => ?_, fun i t d e => ?_, fun i j t u d e p h1 h2 h3 h4 => ?_, fun i d p h1 h2 => ?_⟩
  · obtain ⟨h1, h2⟩ := g e
    rw [h2]
    exact r.fz i d h1
  · obtain ⟨h1, h2⟩ := g e
    rw [h2]
    exact r.ow i t d h1
  · obtain ⟨a1, a2⟩ := g h1
    obtain ⟨b1, b2⟩ := g h2
    rw [a2] at h3
    rw [b2] at h4
    exact r.dj i j t u d e p a1 b1 h3 h4
  · obtain ⟨a1, a2⟩ := g h1
    rw [a2] at h2
    exact r.pn i d p a1 h2
def compM (tg : Tgt) (c : Env → MO Bool) (f : Env → MO D) (vs : List Nat) : List D → Env → MO (List D)
  | [], ρ => .ok [] ρ
  | d :: ds, ρ => match tg d with
    | .ok as => if as.all (fun p => vs.contains p.1) = true then (c (setS (wipeS ρ vs) as)).bind fun b ρ1 => if b = true then (f ρ1).bind fun e ρ2 => (compM tg c f vs ds (wipeS ρ2 vs)).bind fun es ρ3 => .ok (e :: es) ρ3 else compM tg c f vs ds (wipeS ρ1 vs) else .bad
    | _ => .bad
def mComp (vs : List Nat) (L : List Nat) (it : VEnv → Res (List D)) (tg : Tgt) (c : Env → MO Bool) (f : Env → MO D) : Env → MO D := fun ρ => match it (view L ρ) with
  | .ok ds => if fit ds.length = true then match compM tg c f vs ds (wipeS (shut L ρ) vs) with
    | .ok es ρ1 => .ok (.lst es) ρ1
    | _ => .bad else .bad
  | .exc x => .ex x (shut L ρ)
  | .bad => .bad
abbrev MTs (K : PySem.W.Frag) (X : Cx) (ifs : List Expr) (c : Env → MO Bool) : Prop := PTs X ifs (bM K none c)
def mYes : Env → MO Bool := fun ρ => .ok true ρ
theorem BM.ok {α β : Type} {r : MO α} {f : α → Env → MO β} {b : β} {ρ : Env} (h : r.bind f = .ok b ρ) : ∃ a ρ1, r = .ok a ρ1 ∧ f a ρ1 = .ok b ρ := by
  cases r with
  | ok a ρ1 => exact ⟨a, ρ1, rfl, h⟩
  | ex x ρ1 => cases h
  | bad => cases h
/-- the base while the list at p is being made -/
def making (B : Bs) (p : Addr) (acc : List V) : Bs := ⟨upd B.b p (.lst acc), fun a => if a = p then none else B.g a, B.pin⟩
/-! as a value, as an own list -/
/-- a new thing, behind state -/
def PmW (K : PySem.W.Frag) (xm : XMo) (σ : St) (B : Bs) (r : MO D) (Q : VK) : Prop := match r with
  | .ok d ρ => ∀ p H' F', Rl K B σ H' ρ F' → F' p = none → B.b p = none → Ow K F' H' p d → (∀ (j : Nat) (t : Bool) (e : D), ρ[j]? = some (some (.own t e)) → σ[j]? ≠ some (some (.ref p))) → Q (.ref p) H'
  | .ex x ρ => match xm with
    | none => False
    | some m => ∀ C dd H' F', Rl K B σ H' ρ F' → ExIs K m.mg x F' C dd → m.W C dd σ H'
  | .bad => False
def tMW (K : PySem.W.Frag) (xm : XMo) (m : Env → MO D) : TE := fun σ H Q => ∃ B ρ F, Rl K B σ H ρ F ∧ PmW K xm σ B (m ρ) Q
abbrev MEW (K : PySem.W.Frag) (xm : XMo) (X : Cx) (e : Expr) (m : Env → MO D) : Prop := PE X e (tMW K xm m)
def sOwnM (i : Nat) (m : Env → MO D) : Env → Out := fun ρ => mAt m ρ fun d ρ1 => .nx (ρ1.set i (some (.own false d)))
end
end Du

namespace Du
open PySem PySem.Spec PyProof.Rows L2
section
variable {K : PySem.W.Frag} {xm : XMo} {X : Cx}
/-! ### len, abs, min, max, sum, all, any -/
def rLenA (K : PySem.W.Frag) : List V → Hp → VK → Prop := fun xs H Q => (fun xs H Q => ∃ x n, xs = [x] ∧ LenV K x H n ∧ Q (.int n) H) xs H Q ∨ (fun xs H Q => ∃ a kvs, xs = [V.ref a] ∧ Rd H a (.dK kvs) ∧ Q (.int kvs.length) H) xs H Q
theorem call_lenR {X : Cx} : CallR X (.builtin "len") (fun xs H Q => ∃ a kvs, xs = [V.ref a] ∧ Rd H a (.dK kvs) ∧ Q (.int kvs.length) H) := by
  intro pins s σ H xs us Q I r h
  obtain ⟨a, kvs, rfl, ha, q⟩ := h
  obtain ⟨u, rfl, ru⟩ := vals1 r
  cases ru
  exact d_len I ha fun t s' I' => ⟨.int kvs.length, H, I', ⟨t, rfl⟩, q⟩
theorem cr_len (h : X.K = K := by rfl) : CallR X (.builtin "len") (rLenA K) := by
  subst h
  exact CallR.or call_len call_lenR
def dLen : List D → Res D
  | [.str z] => if fit z.length = true then .ok (.int z.length) else .bad
  | [.lst ds] => .ok (.int ds.length)
  | [.tup ds] => .ok (.int ds.length)
  | [.scr ns] => .ok (.int ns.length)
  | [.dct false kvs] => .ok (.int kvs.length)
  | _ => .bad
theorem cd_len : CallD K (rLenA K) dLen := by
  intro xm σ F H xs ds Q s hd k
  unfold dLen at k
  split at k
  · obtain ⟨v, rfl, h⟩ := hd.one
    obtain ⟨f, k⟩ := Po.ite k
    rw [h.strE]
    exact .inl ⟨_, _, rfl, ⟨Nat.le_of_lt (fit_line f), rfl⟩, k.done s (.int _)⟩
  · obtain ⟨v, rfl, h⟩ := hd.one
    obtain ⟨p, ys, rfl, h1, h2⟩ := h.lstE
    exact .inl ⟨_, _, rfl, .inl ⟨ys, SqL.of (s _ _ h1), rfl⟩, by rw [h2.length]; exact k.done s (.int _)⟩
  · obtain ⟨v, rfl, h⟩ := hd.one
    obtain ⟨p, ys, rfl, h1, h2⟩ := h.tupE
    exact .inl ⟨_, _, rfl, .inr ⟨ys, (Below.of s).sqt h1, rfl⟩, by rw [h2.length]; exact k.done s (.int _)⟩
  · obtain ⟨v, rfl, h⟩ := hd.one
    cases h with
    | scr h1 => exact .inl ⟨_, _, rfl, .inl ⟨_, (Below.of s).sql h1, rfl⟩, by rw [List.length_map]; exact k.done s (.int _)⟩
  · obtain ⟨v, rfl, h⟩ := hd.one
    cases h with
    | @dk a kvs _ h1 h2 h3 =>
      exact .inr ⟨a, kvs, rfl, (Below.of s).rd h1, by
        have e := congrArg List.length h3
        rw [List.length_map, List.length_map] at e
        rw [← e]
        exact k.done s (.int _)⟩
  · exact k.elim
def dAbs : List D → Res D
  | [.int i] => .ok (.int (if i < 0 then -i else i))
  | _ => .bad
theorem cd_abs : CallD K (fun xs H Q => ∃ i, xs = [.int i] ∧ Q (.int (if i < 0 then -i else i)) H) dAbs := by
  intro xm σ F H xs ds Q s hd k
  unfold dAbs at k
  split at k
  · obtain ⟨v, rfl, h⟩ := hd.one
    rw [h.intE]
    exact ⟨_, rfl, k.done s (.int _)⟩
  · exact k.elim
def dMax2 : List D → Res D
  | [.int i, .int j] => .ok (.int (if j > i then j else i))
  | _ => .bad
theorem cd_max2 : CallD K (fun xs H Q => ∃ i j, xs = [.int i, .int j] ∧ Q (.int (if j > i then j else i)) H) dMax2 := by
  intro xm σ F H xs ds Q s hd k
  unfold dMax2 at k
  split at k
  · obtain ⟨v, w, rfl, h, h'⟩ := hd.two
    rw [h.intE, h'.intE]
    exact ⟨_, _, rfl, k.done s (.int _)⟩
  · exact k.elim
def dMin2 : List D → Res D
  | [.int i, .int j] => .ok (.int (if j < i then j else i))
  | _ => .bad
/-- a list of whole numbers, of truths -/
def asInts : List D → Option (List Int)
  | [] => some []
  | .int i :: r => (asInts r).map (i :: ·)
  | _ :: _ => none
def asBls : List D → Option (List Bool)
  | [] => some []
  | .bl i :: r => (asBls r).map (i :: ·)
  | _ :: _ => none
def asStrs : List D → Option (List Str)
  | [] => some []
  | .str i :: r => (asStrs r).map (i :: ·)
  | _ :: _ => none
theorem asBls_of : ∀ {ds : List D} {ns : List Bool}, asBls ds = some ns → ds = ns.map D.bl
  | [], _, h => by cases h; rfl
  | .bl i :: r, ns, h => by
    unfold asBls at h
    obtain ⟨m, h1, rfl⟩ := Option.map_eq_some_iff.mp h
    rw [asBls_of h1]
    rfl
  | .non :: _, _, h => by cases h
  | .int _ :: _, _, h => by cases h
  | .str _ :: _, _, h => by cases h
  | .lst _ :: _, _, h => by cases h
  | .tup _ :: _, _, h => by cases h
  | .scr _ :: _, _, h => by cases h
  | .dct _ _ :: _, _, h => by cases h
  | .exc _ _ :: _, _, h => by cases h
theorem asStrs_of : ∀ {ds : List D} {ns : List Str}, asStrs ds = some ns → ds = ns.map D.str
  | [], _, h => by cases h; rfl
  | .str i :: r, ns, h => by
    unfold asStrs at h
    obtain ⟨m, h1, rfl⟩ := Option.map_eq_some_iff.mp h
    rw [asStrs_of h1]
    rfl
  | .non :: _, _, h => by cases h
  | .int _ :: _, _, h => by cases h
  | .bl _ :: _, _, h => by cases h
  | .lst _ :: _, _, h => by cases h
  | .tup _ :: _, _, h => by cases h
  | .scr _ :: _, _, h => by cases h
  | .dct _ _ :: _, _, h => by cases h
  | .exc _ _ :: _, _, h => by cases h
@[simp] theorem asInts_map (ns : List Int) : asInts (ns.map D.int) = some ns := by
  induction ns with
  | nil => rfl
  | cons n r ih => rw [List.map_cons, asInts, ih]; rfl
@[simp] theorem asBls_map (ns : List Bool) : asBls (ns.map D.bl) = some ns := by
  induction ns with
  | nil => rfl
  | cons n r ih => rw [List.map_cons, asBls, ih]; rfl
@[simp] theorem asStrs_map (ns : List Str) : asStrs (ns.map D.str) = some ns := by
  induction ns with
  | nil => rfl
  | cons n r ih => rw [List.map_cons, asStrs, ih]; rfl
theorem DtAll.blsE {F : Hp} : ∀ {vs : List V} {ns : List Bool}, DtAll K F vs (ns.map D.bl) → vs = ns.map V.bl
  | _, [], .nil => rfl
  | _, n :: ns, .cons a b => by
    rw [a.blE, DtAll.blsE b]
    rfl
def dSum : List D → Res D
  | [.lst ds] => match asInts ds with
    | some ns => .ok (.int ns.sum)
    | none => .bad
  | _ => .bad
def dMaxL : List D → Res D
  | [.lst ds] => match asInts ds with
    | some (n :: ns) => .ok (.int (ns.foldl max n))
    | _ => .bad
  | _ => .bad
def dMinL : List D → Res D
  | [.lst ds] => match asInts ds with
    | some (n :: ns) => .ok (.int (ns.foldl min n))
    | _ => .bad
  | _ => .bad
def dAll : List D → Res D
  | [.lst ds] => match asBls ds with
    | some bs => .ok (.bl (bs.all id))
    | none => .bad
  | _ => .bad
def dAny : List D → Res D
  | [.lst ds] => match asBls ds with
    | some bs => .ok (.bl (bs.any id))
    | none => .bad
  | _ => .bad
theorem cd_all : CallD K (rAll K) dAll := by
  intro xm σ F H xs ds Q s hd k
  unfold dAll at k
  split at k
  · obtain ⟨v, rfl, h⟩ := hd.one
    obtain ⟨p, ys, rfl, h1, h2⟩ := h.lstE
    split at k
    · rename_i bs e
      rw [asBls_of e] at h2
      rw [h2.blsE] at h1
      exact ⟨p, bs, rfl, SqL.of (s _ _ h1), k.done s (.bl _)⟩
    · exact k.elim
  · exact k.elim
/-! ### int, str, list, tuple, dict -/
def dInt : List D → Res D
  | [.int i] => .ok (.int i)
  | [.bl b] => .ok (.int (if b then 1 else 0))
  | _ => .bad
theorem cd_int : CallD K (fun xs H Q => (∃ i, xs = [.int i] ∧ Q (.int i) H) ∨ ∃ k, xs = [.bl k] ∧ Q (.int (if k then 1 else 0)) H) dInt := by
  intro xm σ F H xs ds Q s hd k
  unfold dInt at k
  split at k
  · obtain ⟨v, rfl, h⟩ := hd.one
    rw [h.intE]
    exact .inl ⟨_, rfl, k.done s (.int _)⟩
  · obtain ⟨v, rfl, h⟩ := hd.one
    rw [h.blE]
    exact .inr ⟨_, rfl, k.done s (.int _)⟩
  · exact k.elim
def dStr : List D → Res D
  | [.int i] => if i.natAbs.log2 < 1920 then .ok (.str (toString i)) else .bad
  | _ => .bad
def dList : List D → Res D
  | [.lst ds] => .ok (.lst ds)
  | [.tup ds] => .ok (.lst ds)
  | [.scr ns] => .ok (.lst (ns.map D.int))
  | _ => .bad
def dTuple : List D → Res D
  | [.lst ds] => .ok (.tup ds)
  | [.tup ds] => .ok (.tup ds)
  | _ => .bad
/-! ### isinstance -/
def kind : D → String
  | .non => "NoneType" | .bl _ => "bool" | .int _ => "int" | .str _ => "str" | .lst _ => "list" | .tup _ => "tuple" | .dct _ _ => "dict" | .scr _ => "" | .exc _ _ => ""
def isKind (t : String) (d : D) : Res D := match d with
  | .scr _ => .bad
  | .exc _ _ => .bad
  | d => .ok (.bl (kind d == t || (kind d == "bool" && t == "int")))
theorem tyX_of {F H : Hp} {v : V} {d : D} (s : Same F H) (h : Dt K F v d) (h1 : ∀ ns, d ≠ .scr ns) (h2 : ∀ c f, d ≠ .exc c f) : TyX K H v (.type (kind d)) := by
  cases h with
  | non => exact .base .non
  | bl b => exact .base (.bl b)
  | int i => exact .base (.int i)
  | str z => exact .base (.str z)
  | lst h _ => exact .base (.lst (s _ _ h))
  | tup h _ => exact .base (.tup (s _ _ h))
  | tk h _ _ =>
    obtain ⟨_, _, _, h1, h2, _⟩ := h
    exact .kTuple h1 h2
  | scr _ => exact absurd rfl (h1 _)
  | dk h _ _ =>
    rcases h with h | ⟨o, h⟩
    · exact .base (.dK (s _ _ h))
    · exact .fDict (s _ _ h)
  | dt h _ _ => exact .base (.dT (s _ _ h))
def TyNames : List String := ["int", "bool", "str", "list", "tuple", "dict"]
theorem kitB_all : (TyNames.all fun t => ["NoneType", "bool", "int", "str", "list", "tuple", "dict"].all fun k => kitB k t == some (k == t || (k == "bool" && t == "int"))) = true := by decide +kernel
theorem kit_kind {t : String} (ht : t ∈ TyNames) {d : D} (h1 : ∀ ns, d ≠ .scr ns) (h2 : ∀ c f, d ≠ .exc c f) : PySem.W.kitOne K (.type (kind d)) (.type t) = some (kind d == t || (kind d == "bool" && t == "int")) := by
  refine kit_ty ?_
  have a := List.all_eq_true.mp kitB_all t ht
  have hm : kind d ∈ ["NoneType", "bool", "int", "str", "list", "tuple", "dict"] := by
    cases d with
    | scr ns => exact absurd rfl (h1 ns)
    | exc c f => exact absurd rfl (h2 c f)
    | _ => simp [kind]
  have b := List.all_eq_true.mp a _ hm
  exact eq_of_beq b
def eIsi (t : String) (f : VEnv → Res D) : VEnv → Res D := fun ρ => (f ρ).bind (isKind t)
theorem fe_isi {t : String} {ts : Str} {e : Expr} {f : VEnv → Res D} {p p2 pos : Pos} (ht : t ∈ TyNames) (he : FE K xm X e f) (h2 : PE X (.Name ts p2) (tC (.ty t))) (hm : X.mg "isinstance" = none) (hk : X.K = K := by rfl) (hg : Gl X "isinstance" := by rfl)
    (hs : starEach [e, .Name ts p2] X.env = (false, eval e X.env) :: starEach [.Name ts p2] X.env := by rfl) (hs2 : starEach [.Name ts p2] X.env = (false, eval (.Name ts p2) X.env) :: starEach [] X.env := by rfl) (hpl : (backTo pos (starEach [.Name ts p2] X.env)).any (·.1) = false := by rfl) :
    FE K xm X (.Call (.Name "isinstance" p) [e, .Name ts p2] [] pos) (eIsi t f) :=
  PE.to (pe_callB (Dear.call_isi_k K hk) hg hm (by decide +kernel) (pa_cons he (pa_cons h2 pa_nil hs2) hs) (by decide) (by decide) hs hpl) fun σ H Q ⟨F, ρ, sF, vw, k⟩ => ⟨F, ρ, sF, vw, Po.seq k fun d v F1 H1 g1 d1 k1 => by
    have key : (∀ ns, d ≠ .scr ns) → (∀ c f, d ≠ .exc c f) → Po (RD K) K xm σ F1 H1 (.ok (.bl (kind d == t || (kind d == "bool" && t == "int")))) Q → rIsi K [v, .ty t] H1 Q := fun h1 h2 k1 =>
      ⟨v, .ty t, _, _, _, rfl, .ty t, tyX_of g1.fh d1 h1 h2, kit_kind ht h1 h2, k1.done g1.fh (.bl _)⟩
    cases d with
    | scr ns => exact k1.elim
    | exc c f => exact k1.elim
    | non => exact key (fun _ => nofun) (fun _ _ => nofun) k1
    | bl _ => exact key (fun _ => nofun) (fun _ _ => nofun) k1
    | int _ => exact key (fun _ => nofun) (fun _ _ => nofun) k1
    | str _ => exact key (fun _ => nofun) (fun _ _ => nofun) k1
    | lst _ => exact key (fun _ => nofun) (fun _ _ => nofun) k1
    | tup _ => exact key (fun _ => nofun) (fun _ _ => nofun) k1
    | dct _ _ => exact key (fun _ => nofun) (fun _ _ => nofun) k1⟩
/-! ### len(set(e)), e a list of texts -/
def eLenSet (f : VEnv → Res D) : VEnv → Res D := fun ρ => (f ρ).bind fun d => match d with
  | .lst ds => match asStrs ds with
    | some zs => if Nat.ble zs.length 1000 = true then .ok (.int (Dear.dd zs).length) else .bad
    | none => .bad
  | _ => .bad
theorem fe_lenSet {a : Expr} {f : VEnv → Res D} {p p2 q pos : Pos} (hm : X.mg "len" = none) (hm2 : X.mg "set" = none) (ha : FE K xm X a f) (hc : X.calm = true := by rfl) (hk : X.K = K := by rfl) (hg : Gl X "len" := by rfl) (hg2 : Gl X "set" := by rfl)
    (na : starEach [a] X.env = (false, eval a X.env) :: starEach [] X.env := by rfl) : FE K xm X (.Call (.Name "len" p) [.Call (.Name "set" p2) [a] [] q] [] pos) (eLenSet f) :=
  PE.to (Dear.pe_lenSetS K hc hm hm2 ha hk hg hg2 na) fun σ H Q ⟨F, ρ, sF, vw, k⟩ => ⟨F, ρ, sF, vw, Po.seq k fun d v F1 H1 g1 d1 k1 => by
    split at k1
    · obtain ⟨p, ys, rfl, h1, h2⟩ := d1.lstE
      split at k1
      · rename_i zs e
        obtain ⟨f, k1⟩ := Po.ite k1
        rw [asStrs_of e] at h2
        rw [h2.strsE] at h1
        exact ⟨p, zs, rfl, SqL.of (g1.fh _ _ h1), Nat.le_of_ble_eq_true f, k1.done g1.fh (.int _)⟩
      · exact k1.elim
    · exact k1.elim⟩
/-! ### own lists: list(e), sorted(e); dict(pairs) -/
/-- pairs of a key and a thing -/
def asPairs : List D → Option (List (D × D))
  | [] => some []
  | .tup [k, v] :: r => if dKeyOk k = true then (asPairs r).map ((k, v) :: ·) else none
  | _ :: _ => none
noncomputable def mergeD (acc : List (D × D)) (ps : List (D × D)) : List (D × D) := ps.foldl (fun a p => dPut a p.1 p.2) acc
noncomputable def dDict : List D → Res D
  | [.lst ds] => match asPairs ds with
    | some ps => .ok (.dct false (mergeD [] ps))
    | none => .bad
  | _ => .bad
/-! ### methods -/
def MtD (K : PySem.W.Frag) (T : String) (r : V → List V → Hp → VK → Prop) (ty : D → Bool) (g : D → List D → Res D) : Prop :=
  (∀ F H x a, Same F H → Dt K F x a → ty a = true → tyV K T x H) ∧ ∀ (xm : XMo) σ F H x a xs ds Q, Same F H → Dt K F x a → ty a = true → DtAll K F xs ds → Po (RD K) K xm σ F H (g a ds) Q → r x xs H Q
def eM (ty : D → Bool) (g : D → List D → Res D) (fo : VEnv → Res D) (fa : VEnv → Res (List D)) : VEnv → Res D := fun ρ => (fo ρ).bind fun a => if ty a = true then (fa ρ).bind fun as => g a as else .bad
def isStr : D → Bool
  | .str _ => true
  | _ => false
def isLst : D → Bool
  | .lst _ => true
  | _ => false
def dStarts : D → List D → Res D
  | .str a, [.str b] => .ok (.bl (Txt.startswith a b))
  | _, _ => .bad
def dUpper : D → List D → Res D
  | .str a, [] => if Nat.ble a.length 5592405 = true then .ok (.str (Txt.upper a)) else .bad
  | _, _ => .bad
/-- the first place of a flat thing -/
def dIndex : D → List D → Res D
  | .lst ds, [d] => if (flatD d && ds.all flatD) = true then match ds.findIdx? (fun e => pyEq e d) with
    | some j => .ok (.int j)
    | none => .bad else .bad
  | _, _ => .bad
end
end Du

namespace Du
open PySem PySem.Spec PyProof.Rows L2
section
variable {K : PySem.W.Frag} {xm : XMo} {X : Cx}
/-! ### sep.join(texts), text.split(sep) -/
def dJoin : D → D → Res D
  | .str a, .lst ds => match asStrs ds with
    | some zs => if Nat.ble ((zs.map (·.length)).sum + zs.length * a.length) 16777216 = true then .ok (.str (Txt.join a zs)) else .bad
    | none => .bad
  | _, _ => .bad
def eJoin (fo fa : VEnv → Res D) : VEnv → Res D := fun ρ => (fo ρ).bind fun a => if isStr a = true then (fa ρ).bind fun d => dJoin a d else .bad
def dSplit : D → List D → Res D
  | .str a, [.str b] => if (!(b.length == 0) && Nat.ble (a.length + 2) 16777216) = true then .ok (.lst ((Txt.split a b).map D.str)) else .bad
  | _, _ => .bad
/-! ### d.get(k), d.get(k, e) -/
def isDct : D → Bool
  | .dct false _ => true
  | _ => false
noncomputable def eGet1 (fo fk : VEnv → Res D) : VEnv → Res D := fun ρ => (fo ρ).bind fun a => match a with
  | .dct false kvs => (fk ρ).bind fun n => if dKeyOk n = true then .ok ((dGet kvs n).getD .non) else .bad
  | _ => .bad
noncomputable def eGet2 (fo fk fd : VEnv → Res D) : VEnv → Res D := fun ρ => (fo ρ).bind fun a => match a with
  | .dct false kvs => (fk ρ).bind fun n => (fd ρ).bind fun e => if dKeyOk n = true then .ok ((dGet kvs n).getD e) else .bad
  | _ => .bad
/-! ### sorted(e), e whole numbers, few -/
def insI (n : Int) : List Int → List Int
  | [] => [n]
  | m :: r => if n ≤ m then n :: m :: r else m :: insI n r
def sortI : List Int → List Int
  | [] => []
  | n :: r => insI n (sortI r)
/-! ### the law's own end -/
end
section
variable {P : Program} {w : World} {K : PySem.W.Frag} {mg : Str → Option Value} {base : Heap}
theorem law_of {k : Nat} {f : Addr} {fd : FuncData} {g : List D → Res D} (h : FnOk P w K mg base CX0 k f fd ["_law_script"] (sp0 K g)) (e : ∀ ns : List Int, ns.length ≤ 63 → g [.scr ns] = .ok (.bl true)) :
    FnOk P w K mg base CX0 k f fd ["_law_script"] (fun vs H Q _ => ∃ (a : Addr) (ns : List Int), vs = [.ref a] ∧ SqL K H a (ns.map V.int) ∧ ns.length ≤ 63 ∧ ∀ H', Q (.bl true) H') :=
  h.imp fun vs H Q E ⟨a, ns, ev, hS, hl, q⟩ => ⟨[.scr ns], H, .refl _, by rw [ev]; exact .cons (.scr hS) .nil, _, e ns hl, fun v G' H' _ d => by rw [d.blE]; exact q H'⟩
end
end Du

namespace Du
open PySem PySem.Spec PyProof.Rows L2
/-! ### what a comparison tells is a truth -/
theorem gb_eq : ∀ x y d, dEq x y = .ok d → ∃ b, d = .bl b := fun x y d h => by
  unfold dEq at h
  split at h
  · cases h; exact ⟨_, rfl⟩
  · cases h
theorem gb_ne : ∀ x y d, dNe x y = .ok d → ∃ b, d = .bl b := fun x y d h => by
  unfold dNe at h
  split at h
  · cases h; exact ⟨_, rfl⟩
  · cases h
theorem gb_cmp {p : Int → Int → Bool} : ∀ x y d, dCmp p x y = .ok d → ∃ b, d = .bl b := fun x y d h => by
  unfold dCmp at h
  split at h
  · cases h; exact ⟨_, rfl⟩
  · cases h
theorem gb_in {n : Bool} : ∀ x y d, dIn n x y = .ok d → ∃ b, d = .bl b := fun x y d h => by
  unfold dIn at h
  split at h
  · split at h
    · cases h; exact ⟨_, rfl⟩
    · cases h
  · split at h
    · cases h; exact ⟨_, rfl⟩
    · cases h
  · split at h
    · cases h; exact ⟨_, rfl⟩
    · cases h
  · split at h
    · cases h; exact ⟨_, rfl⟩
    · cases h
  · cases h
theorem gb_notN : ∀ x y d, dNotN x y = .ok d → ∃ b, d = .bl b := fun x y d h => by
  unfold dNotN at h
  split at h
  · cases h; exact ⟨_, rfl⟩
  · cases h
section
variable {K : PySem.W.Frag} {xm : XMo} {X : Cx}
/-! ### f(e, ..), e a new thing that f changes: what f tells of it -/
def eIOT (f : List D → Res (D × D)) (f0 : VEnv → Res D) (fa : VEnv → Res (List D)) : VEnv → Res D := fun ρ => (f0 ρ).bind fun o => (fa ρ).bind fun as => match f (o :: as) with
  | .ok r => .ok r.1
  | _ => .bad
end
end Du

namespace Du
open PySem PySem.Spec PyProof.Rows L2
theorem u64 {k : Nat} {A : Around} (r : Room k A) : A.units + 64 < cLine := by have := r.un; omega
theorem u65 {k : Nat} {A : Around} (r : Room k A) : A.units + 64 + 1 < cLine := by have := r.un; omega
def dNeg : D → Res D
  | .int i => .ok (.int (-i))
  | _ => .bad
theorem und_neg {K : PySem.W.Frag} : UnD K (rU fun i => .int (-i)) dNeg := by
  intro xm σ F H x a Q s h k
  unfold dNeg at k
  split at k
  · rw [h.intE]
    exact ⟨_, rfl, k.done s (.int _)⟩
  · exact k.elim
theorem tn_int : "int" ∈ TyNames := by unfold TyNames; exact .head _
theorem tn_bool : "bool" ∈ TyNames := by unfold TyNames; exact .tail _ (.head _)
theorem tn_str : "str" ∈ TyNames := by unfold TyNames; exact .tail _ (.tail _ (.head _))
theorem tn_list : "list" ∈ TyNames := by unfold TyNames; exact .tail _ (.tail _ (.tail _ (.head _)))
theorem tn_tuple : "tuple" ∈ TyNames := by unfold TyNames; exact .tail _ (.tail _ (.tail _ (.tail _ (.head _))))
end Du
namespace Du
open PySem PySem.Spec PyProof.Rows L2
end Du

namespace Du
open PySem PySem.Spec PyProof.Rows L2
/-! ### a dict that is gone through is locked meanwhile -/
section
variable {K : PySem.W.Frag} {F G : Hp}
structure Abv (F G : Hp) : Prop where
  rd : ∀ a u, (∀ ob w, u ≠ .frz ob w) → Rd F a u → Rd G a u
  ls : ∀ a xs, F a = some (.lst xs) → G a = some (.lst xs)
  tp : ∀ a xs, F a = some (.tup xs) → G a = some (.tup xs)
  dt : ∀ a xs, F a = some (.dT xs) → G a = some (.dT xs)
theorem Abv.sql {a : Addr} {xs : List V} (s : Abv F G) (h : SqL K F a xs) : SqL K G a xs := h.imp (s.rd _ _ fun _ _ e => nomatch e) id
theorem Abv.sqt {a : Addr} {xs : List V} (s : Abv F G) (h : SqT K F a xs) : SqT K G a xs := h.imp (s.rd _ _ fun _ _ e => nomatch e) id
theorem Abv.rdk {a : Addr} {xs : List (Key × V)} (s : Abv F G) (h : Rd F a (.dK xs)) : Rd G a (.dK xs) := s.rd _ _ (fun _ _ e => nomatch e) h
mutual
theorem Dt.ab (s : Abv F G) : ∀ {v : V} {d : D}, Dt K F v d → Dt K G v d
  | _, _, .non => .non
  | _, _, .bl b => .bl b
  | _, _, .int i => .int i
  | _, _, .str z => .str z
  | _, _, .lst h a => .lst (s.ls _ _ h) (DtAll.ab s a)
  | _, _, .scr h => .scr (s.sql h)
  | _, _, .tup h a => .tup (s.tp _ _ h) (DtAll.ab s a)
  | _, _, .tk h a o => .tk h (DtAll.ab s a) o
  | _, _, .dk h a e => .dk (s.rdk h) (DtAll.ab s a) e
  | _, _, .dt h a e => .dt (s.dt _ _ h) (DtAll.ab s a) e
theorem DtAll.ab (s : Abv F G) : ∀ {vs : List V} {ds : List D}, DtAll K F vs ds → DtAll K G vs ds
  | _, _, .nil => .nil
  | _, _, .cons a b => .cons (Dt.ab s a) (DtAll.ab s b)
end
theorem abv_unlock {a0 : Addr} {kvs : List (Key × V)} {od : Obj} (h : F a0 = none ∨ F a0 = some (.frz od (.dK kvs))) : Abv F (upd F a0 (.dK kvs)) := by
  have st : ∀ (a : Addr) (u : HO), (∀ ob w, u ≠ .frz ob w) → (∀ w, u ≠ .dK w) → F a = some u → (upd F a0 (.dK kvs)) a = some u := fun a u n n2 e => by
    by_cases z : a = a0
    · subst z
      rcases h with h | h
      · rw [h] at e; cases e
      · rw [h] at e; cases e; exact absurd rfl (n _ _)
    · rw [upd_ne z]; exact e
  refine ⟨fun a u n r => ?_, fun a xs e => ?_, fun a xs => st a _ (fun _ _ e => nomatch e) (fun _ e => nomatch e), fun a xs => st a _ (fun _ _ e => nomatch e) (fun _ e => nomatch e)⟩
  · by_cases z : a = a0
    · subst z
      rcases h with h | h
      · rcases r with r | ⟨ob, r⟩
        · rw [h] at r; cases r
        · rw [h] at r; cases r
      · rcases r with r | ⟨ob, r⟩
        · rw [h] at r; cases r; exact absurd rfl (n _ _)
        · rw [h] at r; cases r; exact .inl upd_same
    · rcases r with r | ⟨ob, r⟩
      · exact .inl (by rw [upd_ne z]; exact r)
      · exact .inr ⟨ob, by rw [upd_ne z]; exact r⟩
  · by_cases z : a = a0
    · subst z
      rcases h with h | h
      · rw [h] at e; cases e
      · rw [h] at e; cases e
    · rw [upd_ne z]; exact e
theorem bel_lock {a0 : Addr} {kvs : List (Key × V)} {od : Obj} (h : F a0 = some (.dK kvs)) : Below F (upd F a0 (.frz od (.dK kvs))) := fun a o e => by
  by_cases z : a = a0
  · subst z
    rw [h] at e
    cases e
    exact .inr ⟨_, _, rfl, upd_same⟩
  · exact .inl (by rw [upd_ne z]; exact e)
theorem Ow.mv' {F' H H' : Hp} {p : Addr} {d : D} (h : Ow K F H p d) (m : ∀ vs ds, DtAll K F vs ds → DtAll K F' vs ds) (e : ∀ o, H p = Option.some o → H' p = Option.some o) : Ow K F' H' p d := by
  unfold Ow at h ⊢
  split at h
  · obtain ⟨xs, h1, h2⟩ := h
    exact ⟨xs, e _ h1, m _ _ h2⟩
  · obtain ⟨kvs, h1, h2, h3⟩ := h
    exact ⟨kvs, e _ h1, m _ _ h2, h3⟩
  · obtain ⟨kvs, h1, h2, h3⟩ := h
    exact ⟨kvs, e _ h1, m _ _ h2, h3⟩
  · exact h.elim
def Bs.lock (B : Bs) (a : Addr) (o : HO) : Bs := ⟨upd B.b a o, B.g, B.pin⟩
variable {B : Bs} {H : Hp} {σ : St} {ρ : Env} {Dn : Ends} {a : Addr} {kvs : List (Key × V)} {od : Obj}
theorem Rl.lock (r : Rl K B σ H ρ F) (hf : F a = some (.dK kvs)) (hb : B.b a = some (.dK kvs)) (hg : ∃ v, B.g a = some v) : Rl K (B.lock a (.frz od (.dK kvs))) σ (upd H a (.frz od (.dK kvs))) ρ (upd F a (.frz od (.dK kvs))) := by
  refine ⟨sm_upd2 r.fh, sm_upd2 r.bh, fun c o u e1 e2 => ?_, r.len, fun i d e => ?_, fun i t d e => ?_, r.dj, r.pn⟩
  · by_cases z : c = a
    · subst z; exact hg
    · refine r.zf c o u ?_ (by rw [upd_ne z] at e2; exact e2)
      have : (upd B.b a (.frz od (.dK kvs))) c = some o := e1
      rw [upd_ne z] at this
      exact this
  · obtain ⟨v, q1, q2⟩ := r.fz i d e
    exact ⟨v, q1, q2.mv (bel_lock hf)⟩
  · obtain ⟨p, q1, q2, q3, q4⟩ := r.ow i t d e
    have z : p ≠ a := fun z => by rw [z, hf] at q2; cases q2
    refine ⟨p, q1, by rw [upd_ne z]; exact q2, ?_, Ow.mv' q4 (fun _ _ q => q.mv (bel_lock hf)) fun o ho => by rw [upd_ne z]; exact ho⟩
    show (upd B.b a (.frz od (.dK kvs))) p = none
    rw [upd_ne z]
    exact q3
theorem Rl.lockAt (r : Rl K (B.lock a (.frz od (.dK kvs))) σ H ρ F) : H a = some (.frz od (.dK kvs)) := r.bh a _ upd_same
theorem Rl.abv (r : Rl K (B.lock a (.frz od (.dK kvs))) σ H ρ F) : Abv F (upd F a (.dK kvs)) := abv_unlock (by
  cases e : F a with
  | none => exact .inl rfl
  | some o =>
    have := r.fh _ _ e
    rw [r.lockAt] at this
    cases this
    exact .inr rfl)
theorem Rl.unlock (r : Rl K (B.lock a (.frz od (.dK kvs))) σ H ρ F) (hb : B.b a = some (.dK kvs)) (hg : ∃ v, B.g a = some v) : Rl K B σ (upd H a (.dK kvs)) ρ (upd F a (.dK kvs)) := by
  refine ⟨sm_upd2 r.fh, fun c o e => ?_, fun c o u e1 e2 => ?_, r.len, fun i d e => ?_, fun i t d e => ?_, r.dj, r.pn⟩
  · by_cases z : c = a
    · subst z; rw [hb] at e; cases e; exact upd_same
    · rw [upd_ne z]
      refine r.bh c o ?_
      show (upd B.b a (.frz od (.dK kvs))) c = some o
      rw [upd_ne z]
      exact e
  · by_cases z : c = a
    · subst z; exact hg
    · refine r.zf c o u ?_ (by rw [upd_ne z] at e2; exact e2)
      show (upd B.b a (.frz od (.dK kvs))) c = some o
      rw [upd_ne z]
      exact e1
  · obtain ⟨v, q1, q2⟩ := r.fz i d e
    exact ⟨v, q1, q2.ab r.abv⟩
  · obtain ⟨p, q1, q2, q3, q4⟩ := r.ow i t d e
    have z : p ≠ a := fun z => by
      have : (upd B.b a (.frz od (.dK kvs))) p = none := q3
      rw [z, upd_same] at this
      cases this
    refine ⟨p, q1, by rw [upd_ne z]; exact q2, ?_, Ow.mv' q4 (fun _ _ q => q.ab r.abv) fun o ho => by rw [upd_ne z]; exact ho⟩
    have : (upd B.b a (.frz od (.dK kvs))) p = none := q3
    rw [upd_ne z] at this
    exact this
/-- the ends of a statement that runs while the dict is locked (tLock) -/
def Lkd (Dn : Ends) (a : Addr) (od : Obj) (u : HO) : Ends := ⟨fun σ' H' => H' a = some (.frz od u) ∧ Dn.nx σ' (upd H' a u), fun v H' => H' a = some (.frz od u) ∧ Dn.rt v (upd H' a u), fun σ' H' => H' a = some (.frz od u) ∧ Dn.bk σ' (upd H' a u), fun σ' H' => H' a = some (.frz od u) ∧ Dn.ct σ' (upd H' a u)⟩
theorem So.lock {o : Out} (k : So K none B Dn o) (hb : B.b a = some (.dK kvs)) (hg : ∃ v, B.g a = some v) : So K none (B.lock a (.frz od (.dK kvs))) (Lkd Dn a od (.dK kvs)) o := by
  cases o with
  | nx ρ => exact fun σ H F r => ⟨r.lockAt, k _ _ _ (r.unlock hb hg)⟩
  | bk ρ => exact fun σ H F r => ⟨r.lockAt, k _ _ _ (r.unlock hb hg)⟩
  | ct ρ => exact fun σ H F r => ⟨r.lockAt, k _ _ _ (r.unlock hb hg)⟩
  | rt d ρ => exact fun v σ H F r dv => ⟨r.lockAt, k _ _ _ _ (r.unlock hb hg) (dv.ab r.abv)⟩
  | ro d ρ =>
    refine fun p σ H F r fp bp ow => ?_
    have z : p ≠ a := fun z => by
      have : (upd B.b a (.frz od (.dK kvs))) p = none := bp
      rw [z, upd_same] at this
      cases this
    refine ⟨r.lockAt, k p _ _ _ (r.unlock hb hg) (by rw [upd_ne z]; exact fp) ?_ (Ow.mv' ow (fun _ _ q => q.ab r.abv) fun o ho => by rw [upd_ne z]; exact ho)⟩
    have : (upd B.b a (.frz od (.dK kvs))) p = none := bp
    rw [upd_ne z] at this
    exact this
  | ex x ρ => exact k.elim
  | bad => exact k.elim
/-! ### for k in d, d.items(), d.values() -/
def iDict (i : Nat) (J : Addr → Obj → List (Key × V) → It) : TI := fun σ H R => tVar i σ H fun x H1 => ∃ d o kvs, x = .ref d ∧ H1 d = some (.frz o (.dK kvs)) ∧ R (J d o kvs) H1
/-- J walks the pairs of a dict as q -/
def Walks (K : PySem.W.Frag) (J : Addr → Obj → List (Key × V) → It) (q : List (D × D) → List D) : Prop := ∀ F a od kvs ds, F a = some (.frz od (.dK kvs)) → DtAll K F (kvs.map (·.2)) (ds.map (·.2)) → ds.map (·.1) = kvs.map (fun p => keyD p.1) → Yl K F (J a od kvs) (q ds)
def dDct (q : List (D × D) → List D) : D → Res (List D)
  | .dct false ds => .ok (q ds)
  | _ => .bad
def iDct (q : List (D × D) → List D) (i : Nat) : VEnv → Res (List D) := fun ρ => (eVar i ρ).bind (dDct q)
def qKeys (ds : List (D × D)) : List D := ds.map (·.1)
def qVals (ds : List (D × D)) : List D := ds.map (·.2)
def qItems (ds : List (D × D)) : List D := ds.map fun p => .tup [p.1, p.2]
variable {X : Cx} {xm : XMo}
theorem PS.or {st : Stmt} {t t' : TS} (h : PS X st t) (h' : PS X st t') : PS X st fun D σ H => t D σ H ∨ t' D σ H := ⟨fun pins s σ H D I q => q.elim (h.run pins s σ H D I) (h'.run pins s σ H D I)⟩
end
end Du

namespace Du
open PySem PySem.Spec PyProof.Rows L2
section
variable {K : PySem.W.Frag} {xm : XMo} {X : Cx} {B : Bs} {F H : Hp} {σ : St} {ρ : Env} {Dn : Ends}
/-! ### iterators, slices, .. with state -/
def iM (K : PySem.W.Frag) (xm : XMo) (m : Env → MO (List D)) : TI := fun σ H R => ∃ B ρ F, Rl K B σ H ρ F ∧ Pm (fun F' J ds => Yl K F' J ds) K xm σ B F (m ρ) R
abbrev MI (K : PySem.W.Frag) (xm : XMo) (X : Cx) (tg e : Expr) (m : Env → MO (List D)) : Prop := PI X tg e (iM K xm m)
def mRange1 (m : Env → MO D) : Env → MO (List D) := fun ρ => (m ρ).bind fun d ρ1 => match d with
  | .int j => if inR j = true then .ok (rangeD 0 j.toNat) ρ1 else .bad
  | _ => .bad
/-- over a list that is made with state -/
def mAny (m : Env → MO D) : Env → MO (List D) := fun ρ => (m ρ).bind fun d ρ1 => match d with
  | .lst ds => .ok ds ρ1
  | _ => .bad
def sForM (m : Env → MO (List D)) (tg : Tgt) (g : Env → Out) (l : List Nat) : Env → Out := fun ρ => mAt m ρ fun ds ρ1 => forL tg g l ds ρ1
/-! comprehensions over such ones -/
def mCompI (vs : List Nat) (m : Env → MO (List D)) (tg : Tgt) (c : Env → MO Bool) (f : Env → MO D) : Env → MO D := fun ρ => (m ρ).bind fun ds ρ1 => if fit ds.length = true then match compM tg c f vs ds (wipeS ρ1 vs) with
    | .ok es ρ2 => .ok (.lst es) ρ2
    | _ => .bad else .bad
/-! x.extend(e) with state -/
def sExtM (i : Nat) (m : Env → MO D) : Env → Out := fun ρ => mAt m ρ fun d ρ1 => match d with
  | .lst es => chg ρ1 i fun ds => if fit (ds.length + es.length) = true then some (ds ++ es) else none
  | _ => .bad
/-! slices -/
def oM (K : PySem.W.Frag) (xm : XMo) (m : Env → MO (Option Int)) : TO := fun σ H Q => ∃ B ρ F, Rl K B σ H ρ F ∧ Pm RO K xm σ B F (m ρ) Q
abbrev MO' (K : PySem.W.Frag) (xm : XMo) (X : Cx) (e : Option Expr) (m : Env → MO (Option Int)) : Prop := PO X e (oM K xm m)
def mNo : Env → MO (Option Int) := fun ρ => .ok none ρ
def mYesO (m : Env → MO D) : Env → MO (Option Int) := fun ρ => (m ρ).bind fun d ρ1 => match d with
  | .int i => .ok (some i) ρ1
  | _ => .bad
def mSl (m : Env → MO D) (lo hi : Env → MO (Option Int)) : Env → MO D := fun ρ => (m ρ).bind fun a ρ1 => (lo ρ1).bind fun l ρ2 => (hi ρ2).bind fun h ρ3 => match dSl a l h with
  | .ok d => .ok d ρ3
  | _ => .bad
theorem Pm.new {d : D} {ρ : Env} {Q : VK} {p : Addr} {o : HO} (k : Pm (RD K) K xm σ B F (.ok d ρ) Q) (r : Rl K B σ H ρ F) (hp : H p = none) (hd : Dt K (upd F p o) (.ref p) d) : Q (.ref p) (upd H p o) :=
  k _ _ _ (r.grow (.new r.fh hp)) (sm_upd (r.fh.free hp)) hd
end
end Du

namespace Du
open PySem PySem.Spec PyProof.Rows L2
section
variable {K : PySem.W.Frag} {xm : XMo} {X : Cx} {B : Bs} {F H : Hp} {σ : St} {ρ : Env} {Dn : Ends}
/-! ### what is made new may be read at once -/
theorem PoW.po {r : Res D} {Q : VK} (k : Po (RD K) K xm σ F H r Q) : PoW K xm σ F H r Q := by
  cases r with
  | ok d =>
    intro p F' H' g hp fp ow
    obtain ⟨o, ho⟩ := ow.some
    exact k _ _ _ (g.freeze hp fp ho) (ow.dt (sm_upd fp) fun u hu => by rw [upd_same, ← hu, ho])
  | exc x => exact k
  | bad => exact k
theorem fe_w {e : Expr} {f : VEnv → Res D} (h : FW' K xm X e f) : FE K xm X e f := PE.to h fun σ H Q ⟨F, ρ, sF, vw, k⟩ => ⟨F, ρ, sF, vw, PoW.po k⟩
/-! ### {k: v} -/
noncomputable def eDct1 (fk fv : VEnv → Res D) : VEnv → Res D := fun ρ => (fk ρ).bind fun k => (fv ρ).bind fun v => if dKeyOk k = true then .ok (.dct false [(k, v)]) else .bad
/-! ### for k in d, list(d) -/
def dListD : List D → Res D
  | [.dct false ds] => .ok (.lst (qKeys ds))
  | _ => .bad
/-! ### e[::-1] -/
def dRev : D → Res D
  | .lst ds => .ok (.lst ds.reverse)
  | .scr ns => .ok (.lst (ns.map D.int).reverse)
  | _ => .bad
theorem fw_rev {e : Expr} {f : VEnv → Res D} {k : Nat} {p1 p2 p3 pos : Pos} (he : FE K xm X e f) (hk : X.K = K := by rfl) : FW' K xm X (.Subscript e (.Slice none none (some (.UnaryOp .USub (.Constant (.int 1) k p1) p2)) p3) pos) (eUn dRev f) := by
  subst hk
  refine PE.to (pe_revL he) fun σ H Q ⟨F, ρ, sF, vw, k⟩ => ⟨F, ρ, sF, vw, PoW.seq k fun d v F1 H1 g1 d1 k1 => ?_⟩
  unfold dRev at k1
  split at k1
  · obtain ⟨p, xs, rfl, h1, h2⟩ := d1.lstE
    exact ⟨p, xs, rfl, SqL.of (g1.fh _ _ h1), fun q hq => k1.new g1.fh hq ⟨_, upd_same, h2.rev⟩⟩
  · cases d1 with
    | scr h1 => exact ⟨_, _, rfl, (Below.of g1.fh).sql h1, fun q hq => k1.new g1.fh hq ⟨_, upd_same, (Dt.ints _).rev⟩⟩
  · exact k1.elim
/-! ### list(range(..)) -/
def okR (a b : Int) : Bool := decide (-(2 ^ 62) ≤ a ∧ a < 2 ^ 62 ∧ -(2 ^ 62) ≤ b ∧ b < 2 ^ 62 ∧ (b - a).toNat ≤ 2 ^ 24)
def dLrg (lo hi : D) : Res D := match lo, hi with
  | .int a, .int b => if okR a b = true then .ok (.lst (rangeD a (b - a).toNat)) else .bad
  | _, _ => .bad
/-! ### sorted(e): few whole numbers -/
def dSorted : List D → Res D
  | [.lst ds] => match asInts ds with
    | some ns => if decide (ns.length < 64) = true then .ok (.lst ((sortI ns).map D.int)) else .bad
    | none => .bad
  | _ => .bad
/-! ### is True, is False -/
def dIsB (neg : Bool) : D → D → Res D
  | .bl a, .bl b => .ok (.bl (if neg then !decide (a = b) else decide (a = b)))
  | _, _ => .bad
/-! ### range(a, b, 2) -/
/-! ### state: list(x.items()), x own; the own dict's change at a place reckoned with state -/
def mItems (i : Nat) : Env → MO D := fun ρ => match ownD ρ i with
  | some (_, ds) => if fit ds.length = true then .ok (.lst (qItems ds)) ρ else .bad
  | none => .bad
end
section
variable {P : Program} {w : World} {K : PySem.W.Frag} {mg : Str → Option Value} {base : Heap}
theorem OkD.full {x : Str} {ps : List Str} {dvs : List V} {k : Nat} {sp : Sp} (h : Dear.OkD P w K mg base CX0 k x ps dvs sp) : Dear.OkF P w K mg base CX0 k x ps sp := by
  obtain ⟨f, fd, hm, hkp, _, hb, F⟩ := h
  exact ⟨f, fd, hm, hkp, hb, F⟩
end
section
variable {K : PySem.W.Frag} {xm : XMo} {X : Cx}
end
end Du
namespace Du
open PySem PySem.Spec PyProof.Rows L2
section
variable {K : PySem.W.Frag} {xm : XMo} {X : Cx}
end
end Du

namespace Dear
open PySem PySem.Spec PyProof.Rows L2
/-! ### xs[::e], e one or minus one -/
def tRevE (K : PySem.W.Frag) (te ts : TE) : TE := fun σ H Q => te σ H fun x H1 => tPart ts σ H1 fun o H2 => ∃ (a : Addr) (xs : List V) (b : Bool), x = .ref a ∧ o = some (if b then -1 else 1) ∧ SqL K H2 a xs ∧ ∀ p, H2 p = none → Q (.ref p) (upd H2 p (.lst (if b then xs.reverse else xs)))
end Dear

namespace Du
open PySem PySem.Spec PyProof.Rows L2
section
variable {K : PySem.W.Frag} {xm : XMo} {X : Cx} {B : Bs} {F H : Hp} {σ : St} {ρ : Env} {Dn : Ends}
/-! ### xs[::e], e one or minus one, with state -/
def mRevE (m n : Env → MO D) : Env → MO D := fun ρ => (m ρ).bind fun a ρ1 => (n ρ1).bind fun b ρ2 => match a, b with
  | .lst ds, .int i => if decide (i = -1) = true then .ok (.lst ds.reverse) ρ2 else if decide (i = 1) = true then .ok (.lst ds) ρ2 else .bad
  | _, _ => .bad
/-! ### list(x.items()), x own -/
/-! ### x[k] = e, k and e with state -/
noncomputable def sPutDM (i : Nat) (m n : Env → MO D) : Env → Out := fun ρ => mAt m ρ fun d ρ1 => needD i (fun ρ' => mAt n ρ' fun n ρ2 => chgD ρ2 i fun ds => if (dKeyOk n && fit ds.length) = true then some (dPut ds n d) else none) ρ1
def sPutLN (i : Nat) (m n : Env → MO D) : Env → Out := fun ρ => mAt m ρ fun d ρ1 => need i (fun ρ' => mAt n ρ' fun n ρ2 => match n with
  | .int n => chg ρ2 i fun ds => match ixN ds.length n with
    | some j => some (ds.set j d)
    | none => none
  | _ => .bad) ρ1
end
end Du

namespace Du
open PySem PySem.Spec PyProof.Rows L2
section
variable {P : Program} {w : World} {K : PySem.W.Frag} {mg : Str → Option Value} {base : Heap}
/-- the law itself, at the function that the top holds -/
theorem okL {x y : Str} {st : Stmt} {N ps : List Str} {k : Nat} {g : Env → Out} {f : Addr} {fd : FuncData} (F : L2.Fun K x y st f fd) (S : FnScope N ps (defScope st))
    (body : ∀ (f : Addr) (cdv : Value) (A : Around) (outer : List PySem.Env) (s : Shared) (H : Hp) (E : XK), Room k (A.deeper (envOfC y (defScope st) s.heap.objs.size f cdv)) → FSs K none (cxOf CX0 P w K mg base N y (defScope st) f cdv A outer s H E).nox (defBody st) g)
    (hN : ps.length ≤ N.length := by decide) : FnOk P w K mg base CX0 (k + 1) f fd ps (sp0 K (runD ps.length N.length g)) :=
  F.ok S (fun vs H Q E h => sp0_len (f := runD ps.length N.length g) h) fun cdv A outer s H vs Q E hr h => ⟨_, body f cdv A outer s H E hr, by
    obtain ⟨ds, G, sG, hd, d, e, q⟩ := h
    unfold runD at e
    by_cases hn : ds.length = ps.length
    · rw [if_pos hn] at e
      refine ⟨⟨H, G, 0⟩, _, G, Rl.start sG hd hn hN, ?_⟩
      unfold outR at e
      cases e2 : g (ent N.length ps.length ds) with
      | nx ρ =>
        rw [e2] at e
        cases e
        intro σ' H' F' r
        obtain ⟨G', g1, d1⟩ := r.done sG
        exact q _ _ _ g1 .non
      | rt d' ρ =>
        rw [e2] at e
        cases e
        intro v σ' H' F' r dv
        obtain ⟨G', g1, d1⟩ := r.done sG
        exact q _ _ _ g1 (dv.same d1)
      | ro d' ρ =>
        rw [e2] at e
        cases e
        intro p σ' H' F' r fp bp ow
        obtain ⟨G', g1, d1⟩ := r.freeze sG fp bp ow
        exact q _ _ _ g1 d1
      | bk ρ => rw [e2] at e; cases e
      | ct ρ => rw [e2] at e; cases e
      | ex x ρ => rw [e2] at e; cases e
      | bad => rw [e2] at e; cases e
    · rw [if_neg hn] at e
      cases e⟩
end
end Du

namespace Du
open PySem PySem.Spec PyProof.Rows L2
section
variable {K : PySem.W.Frag} {X : Cx} {xm : XMo}
/-! ### dicts whose keys are tuples of texts and whole numbers -/
def tKeyOk : D → Bool
  | .tup ds => ds.all dKeyOk
  | _ => false
theorem keysE1 {F : Hp} : ∀ {ds : List D} {xs : List V}, DtAll K F xs ds → ds.all dKeyOk = true → ∃ ks : List Key, xs = ks.map kV ∧ ds = ks.map keyD
  | [], xs, h, _ => by
    cases h
    exact ⟨[], rfl, rfl⟩
  | d :: ds, xs, h, o => by
    cases h with
    | cons a b =>
      rw [List.all_cons, Bool.and_eq_true] at o
      obtain ⟨k, rfl, rfl⟩ := keyE a o.1
      obtain ⟨ks, rfl, rfl⟩ := keysE1 b o.2
      exact ⟨k :: ks, rfl, rfl⟩
theorem keysE {F : Hp} {xs : List V} {ds : List D} (h : DtAll K F xs ds) (o : tKeyOk (.tup ds) = true) : ∃ ks : List Key, xs = ks.map kV ∧ D.tup ds = keysD ks := by
  obtain ⟨ks, rfl, rfl⟩ := keysE1 h o
  exact ⟨ks, rfl, rfl⟩
theorem keysD_inj' {a b : List Key} (h : keysD a = keysD b) : a = b := keysD_inj (D.tup.inj h)
theorem dGetT_of {F : Hp} : ∀ {kvs : List (List Key × V)} {ds : List (D × D)} {k : List Key}, DtAll K F (kvs.map (·.2)) (ds.map (·.2)) → ds.map (·.1) = kvs.map (fun p => keysD p.1) →
    (∀ d, dGet ds (keysD k) = some d → ∃ v, valV kvs k = some v ∧ Dt K F v d) ∧ (dGet ds (keysD k)).isSome = (valV kvs k).isSome
  | [], [], _, _, _ => ⟨(fun _ e => nomatch e), rfl⟩
  | [], _ :: _, _, _, e => by simp at e
  | _ :: _, [], _, _, e => by simp at e
  | p :: kvs, q :: ds, k, h, e => by
    simp only [List.map_cons] at h e
    cases h with
    | cons h1 h2 =>
      injection e with e1 e2
      obtain ⟨i1, i2⟩ := dGetT_of (k := k) h2 e2
      by_cases c : p.1 = k
      · have c' : q.1 = keysD k := by rw [e1, c]
        rw [valV_pos c]
        have g : dGet (q :: ds) (keysD k) = some q.2 := by simp [dGet, List.find?_cons, c']
        rw [g]
        exact ⟨fun d e => by cases e; exact ⟨_, rfl, h1⟩, rfl⟩
      · have c' : ¬ q.1 = keysD k := fun z => c (keysD_inj' (by rw [← e1, z]))
        rw [valV_neg c]
        have g : dGet (q :: ds) (keysD k) = dGet ds (keysD k) := by simp [dGet, List.find?_cons, c']
        rw [g]
        exact ⟨i1, i2⟩
theorem getDT_of {F : Hp} {kvs : List (List Key × V)} {ds : List (D × D)} {k : List Key} {v : V} {d : D} (hv : Dt K F v d) (h : DtAll K F (kvs.map (·.2)) (ds.map (·.2))) (e : ds.map (·.1) = kvs.map (fun p => keysD p.1)) : Dt K F ((valV kvs k).getD v) ((dGet ds (keysD k)).getD d) := by
  obtain ⟨h1, h2⟩ := dGetT_of (k := k) h e
  cases e2 : dGet ds (keysD k) with
  | some d' =>
    obtain ⟨w, q1, q2⟩ := h1 d' e2
    rw [q1]
    exact q2
  | none =>
    rw [e2] at h2
    have : valV kvs k = none := by
      cases q : valV kvs k with
      | none => rfl
      | some w => rw [q] at h2; cases h2
    rw [this]
    exact hv
/-! {} -/
def eDct0T : VEnv → Res D := fun _ => .ok (.dct true [])
/-! d.get(k, e) -/
noncomputable def eGet2T (fo fk fd : VEnv → Res D) : VEnv → Res D := fun ρ => (fo ρ).bind fun a => match a with
  | .dct true kvs => (fk ρ).bind fun n => (fd ρ).bind fun e => if tKeyOk n = true then .ok ((dGet kvs n).getD e) else .bad
  | _ => .bad
/-- the key is a tuple written out -/
theorem fe_get2T {o f : Expr} {es : List Expr} {p1 apos cpos : Pos} {kk : Nat} {fo fd : VEnv → Res D} {fk : VEnv → Res (List D)} (hu : X.A.units + 1 < cLine) (ho : FE K xm X o fo) (he : FA K xm X es fk) (hf : FE K xm X f fd) (m : M2 X o "get" apos (.Tuple es kk p1) f cpos := by exact ⟨rfl, rfl, rfl, rfl⟩) : FE K xm X (.Call (.Attribute o "get" apos) [.Tuple es kk p1, f] [] cpos) (eGet2T fo (eTup fk) fd) :=
  PE.to (pe_dget2 hu ho (pe_tup he) hf m) fun σ H Q ⟨F, ρ, sF, vw, k⟩ => ⟨F, ρ, sF, vw, Po.seq k fun a x F1 H1 g1 d1 k1 => by
    split at k1
    · cases d1 with
      | dt h1 h2 h3 =>
        unfold eTup at k1
        rw [Res.bind_assoc] at k1
        refine ⟨_, rfl, .inr ⟨_, .inl (g1.fh _ _ h1)⟩, F1, ρ, g1.fh, vw.same g1.ff, Po.seq k1 fun ns ys F2 H2 g2 d2 k2 => ?_⟩
        by_cases ft : fit ns.length = true
        · rw [if_pos ft, Res.bind_ok] at k2
          refine ⟨by rw [d2.length]; exact Nat.le_of_lt (fit_line ft), fun b hb => ?_⟩
          have g2' : Gr F2 H2 (upd F2 b (.tup ys)) (upd H2 b (.tup ys)) := .new g2.fh hb
          refine ⟨upd F2 b (.tup ys), ρ, g2'.fh, vw.same (g1.ff.trans (g2.ff.trans g2'.ff)), Po.seq (k2.mono g2') fun e z F3 H3 g3 d3 k3 => ?_⟩
          obtain ⟨ok, k3⟩ := Po.ite k3
          obtain ⟨key, rfl, ek⟩ := keysE d2 ok
          rw [ek] at k3
          exact ⟨_, .inr ⟨_, key, b, .inl (g3.fh _ _ (g3.ff _ _ (g2'.ff _ _ (g2.ff _ _ h1)))), rfl, g3.fh _ _ (g3.ff _ _ upd_same), rfl⟩, k3.done g3.fh (getDT_of d3 (h2.same (g2.ff.trans (g2'.ff.trans g3.ff))) h3)⟩
        · rw [if_neg ft] at k2
          exact k2.elim
    · exact k1.elim⟩
/-! d[k] = e, d an own one -/
def ownT (ρ : Env) (i : Nat) : Option (Bool × List (D × D)) := match ρ[i]? with
  | some (some (.own t (.dct true ds))) => some (t, ds)
  | _ => none
def needT (i : Nat) (g : Env → Out) : Env → Out := fun ρ => match ownT ρ i with
  | some _ => g ρ
  | none => .bad
variable {B : Bs} {Dn : Ends} {ρ : Env} {σ : St} {H F : Hp}
def chgT' (ρ : Env) (i : Nat) (f : List (D × D) → Option (List (D × D))) : Out := match ownT ρ i with
  | some (t, ds) => match f ds with
    | some es => .nx (ρ.set i (some (.own t (.dct true es))))
    | none => .bad
  | none => .bad
theorem replT_of {F : Hp} {k : List Key} {v : V} {d : D} (hd : Dt K F v d) : ∀ {kvs : List (List Key × V)} {ds : List (D × D)}, DtAll K F (kvs.map (·.2)) (ds.map (·.2)) → ds.map (·.1) = kvs.map (fun p => keysD p.1) →
    DtAll K F ((kvs.map fun kv => if kv.1 = k then (kv.1, v) else kv).map (·.2)) ((ds.map fun p => if p.1 = keysD k then (p.1, d) else p).map (·.2)) ∧ (ds.map fun p => if p.1 = keysD k then (p.1, d) else p).map (·.1) = (kvs.map fun kv => if kv.1 = k then (kv.1, v) else kv).map (fun p => keysD p.1)
  | [], [], _, _ => ⟨.nil, rfl⟩
  | [], _ :: _, _, e => by simp at e
  | _ :: _, [], _, e => by simp at e
  | p :: kvs, q :: ds, h, e => by
    simp only [List.map_cons] at h e
    cases h with
    | cons h1 h2 =>
      injection e with e1 e2
      obtain ⟨i1, i2⟩ := replT_of hd h2 e2
      simp only [List.map_cons]
      by_cases c : p.1 = k
      · have c' : q.1 = keysD k := by rw [e1, c]
        rw [if_pos c, if_pos c']
        exact ⟨.cons hd i1, by rw [i2, e1]⟩
      · have c' : ¬ q.1 = keysD k := fun z => c (keysD_inj' (by rw [← e1, z]))
        rw [if_neg c, if_neg c']
        exact ⟨.cons h1 i1, by rw [i2, e1]⟩
theorem putT_of {F : Hp} {k : List Key} {v : V} {d : D} {kvs : List (List Key × V)} {ds : List (D × D)} (hd : Dt K F v d) (h : DtAll K F (kvs.map (·.2)) (ds.map (·.2))) (e : ds.map (·.1) = kvs.map (fun p => keysD p.1)) :
    DtAll K F ((putK kvs k v).map (·.2)) ((dPut ds (keysD k) d).map (·.2)) ∧ (dPut ds (keysD k) d).map (·.1) = (putK kvs k v).map (fun p => keysD p.1) := by
  have g := (dGetT_of (k := k) h e).2
  unfold dPut putK
  have v2 := valV_any k kvs
  by_cases c : (dGet ds (keysD k)).isSome = true
  · rw [if_pos c]
    rw [g, ← v2] at c
    rw [if_pos c]
    exact replT_of hd h e
  · rw [if_neg c]
    rw [g, ← v2] at c
    rw [if_neg c, List.map_append, List.map_append, List.map_append, List.map_append, e]
    exact ⟨h.app (.cons hd .nil), rfl⟩
noncomputable def sPutT (i : Nat) (L : List Nat) (fv fk : VEnv → Res D) : Env → Out := fun ρ => eAt L fv ρ fun d => needT i (fun ρ' => eAt [] fk ρ' fun n => chgT' ρ' i fun ds => if (tKeyOk n && fit ds.length) = true then some (dPut ds n d) else none) (aft L d ρ)
/-! len(d) -/
def dLenT : List D → Res D
  | [.dct true ds] => .ok (.int ds.length)
  | _ => .bad
/-! ### l.count(x), things told all the way -/
def rCountD (K : PySem.W.Frag) : V → List V → Hp → VK → Prop := fun x xs H Q => ∃ (a : Addr) (y : V) (d : PyData) (ds : List PyData), x = V.ref a ∧ xs = [y] ∧ Dp K H (V.ref a) (.list ds) ∧ Dp K H y d ∧
  SeqAt.shaped (.list ds) = true ∧ SeqAt.shaped d = true ∧ Q (.int (ds.countP fun z => PyData.eqv z d : Nat)) H
def dCount : D → List D → Res D
  | .lst es, [d] => if (lay d && lay (.lst es)) = true then .ok (.int (es.countP fun e => pyEq e d : Nat)) else .bad
  | _, _ => .bad
end
end Du

namespace Du
open PySem PySem.Spec PyProof.Rows L2
section
variable {K : PySem.W.Frag} {xm : XMo} {X : Cx}
/-! ### dict(pairs) and len(set(..)) of tuples of texts and whole numbers -/
/-- tuples that are no constants of the top -/
def sKeyOk : D → Bool
  | .tup ds => ds.all dKeyOk && !tkOk ds
  | _ => false
theorem sKeyE {F : Hp} {v : V} {d : D} (h : Dt K F v d) (o : sKeyOk d = true) : ∃ (a : Addr) (ks : List Key), v = .ref a ∧ F a = some (.tup (ks.map kV)) ∧ d = keysD ks := by
  cases h with
  | tup h a =>
    obtain ⟨ks, rfl, e⟩ := keysE a (show tKeyOk (.tup _) = true from (Bool.and_eq_true_iff.mp o).1)
    exact ⟨_, ks, rfl, h, e⟩
  | tk h a z =>
    have := (Bool.and_eq_true_iff.mp o).2
    rw [z] at this
    cases this
  | _ => cases o
theorem sKeysE {F : Hp} : ∀ {ds : List D} {xs : List V}, DtAll K F xs ds → ds.all sKeyOk = true → ∃ ks : List (Addr × List Key), xs = ks.map (fun p => V.ref p.1) ∧ ds = ks.map (fun p => keysD p.2) ∧ ∀ p ∈ ks, F p.1 = some (.tup (p.2.map kV))
  | [], xs, h, _ => by
    cases h
    exact ⟨[], rfl, rfl, fun p hp => nomatch hp⟩
  | d :: ds, xs, h, o => by
    cases h with
    | cons a b =>
      rw [List.all_cons, Bool.and_eq_true] at o
      obtain ⟨q, ks, rfl, e1, rfl⟩ := sKeyE a o.1
      obtain ⟨m, rfl, rfl, hm⟩ := sKeysE b o.2
      refine ⟨(q, ks) :: m, rfl, rfl, fun p hp => ?_⟩
      rcases List.mem_cons.mp hp with rfl | hp
      · exact e1
      · exact hm p hp
theorem ddA_inj {α β : Type} [DecidableEq α] [DecidableEq β] {f : α → β} (hf : ∀ a b, f a = f b → a = b) : ∀ (xs m : List α), (xs.map f).foldl (fun m v => if v ∈ m then m else m ++ [v]) (m.map f) = (xs.foldl (fun m v => if v ∈ m then m else m ++ [v]) m).map f
  | [], m => rfl
  | v :: r, m => by
    rw [List.map_cons, List.foldl_cons, List.foldl_cons]
    have e : f v ∈ m.map f ↔ v ∈ m := ⟨fun h => by
      obtain ⟨a, ha, e⟩ := List.mem_map.mp h
      rw [← hf _ _ e]
      exact ha, fun h => List.mem_map.mpr ⟨v, h, rfl⟩⟩
    by_cases h : v ∈ m
    · rw [if_pos (e.mpr h), if_pos h]
      exact ddA_inj hf r m
    · rw [if_neg fun z => h (e.mp z), if_neg h]
      have := ddA_inj hf r (m ++ [v])
      rw [List.map_append] at this
      exact this
noncomputable def eLenSetK (f : VEnv → Res D) : VEnv → Res D := fun ρ => (f ρ).bind fun d => match d with
  | .lst ds => if (ds.all sKeyOk && Nat.blt ds.length 64) = true then .ok (.int (Dear.ddA ds).length) else .bad
  | _ => .bad
theorem fe_lenSetK {a : Expr} {f : VEnv → Res D} {p p2 q pos : Pos} (hu : X.A.units + 64 < cLine) (hm : X.mg "len" = none) (hm2 : X.mg "set" = none) (ha : FE K xm X a f) (hc : X.calm = true := by rfl) (hk : X.K = K := by rfl) (hg : Gl X "len" := by rfl) (hg2 : Gl X "set" := by rfl)
    (na : starEach [a] X.env = (false, eval a X.env) :: starEach [] X.env := by rfl) : FE K xm X (.Call (.Name "len" p) [.Call (.Name "set" p2) [a] [] q] [] pos) (eLenSetK f) :=
  PE.to (Dear.pe_lenSetK K hu hc hm hm2 ha hk hg hg2 na) fun σ H Q ⟨F, ρ, sF, vw, k⟩ => ⟨F, ρ, sF, vw, Po.seq k fun d v F1 H1 g1 d1 k1 => by
    split at k1
    · obtain ⟨p, ys, rfl, h1, h2⟩ := d1.lstE
      obtain ⟨o, k1⟩ := Po.ite k1
      rw [Bool.and_eq_true] at o
      obtain ⟨ks, rfl, rfl, hks⟩ := sKeysE h2 o.1
      have few := Nat.blt_eq.mp o.2
      rw [List.length_map] at few
      have e : (Dear.ddA (ks.map fun p => keysD p.2)).length = (Dear.ddA (ks.map (·.2))).length := by
        have := ddA_inj (f := keysD) (fun _ _ e => keysD_inj' e) (ks.map (·.2)) []
        rw [List.map_map] at this
        unfold Dear.ddA
        rw [← List.length_map (f := keysD) (as := List.foldl _ [] (ks.map (·.2))), ← this]
        rfl
      rw [e] at k1
      exact ⟨p, ks, rfl, SqL.of (g1.fh _ _ h1), fun r hr => .inl (.inl (g1.fh _ _ (hks r hr))), few, k1.done g1.fh (.int _)⟩
    · exact k1.elim⟩
/-- pairs of a tuple and a thing -/
def asPairsT : List D → Option (List (D × D))
  | [] => some []
  | .tup [k, v] :: r => if sKeyOk k = true then (asPairsT r).map ((k, v) :: ·) else none
  | _ :: _ => none
noncomputable def dDictT : List D → Res D
  | [.lst ds] => match asPairsT ds with
    | some ps => .ok (.dct true (mergeD [] ps))
    | none => .bad
  | _ => .bad
theorem mergeT_of {F : Hp} : ∀ {more : List (List Key × Addr × V)} {ps : List (D × D)} {kvs : List (List Key × V)} {ds : List (D × D)}, DtAll K F (more.map (·.2.2)) (ps.map (·.2)) → ps.map (·.1) = more.map (fun p => keysD p.1) → DtAll K F (kvs.map (·.2)) (ds.map (·.2)) → ds.map (·.1) = kvs.map (fun p => keysD p.1) →
    DtAll K F ((Dear.mergeT kvs more).map (·.2)) ((mergeD ds ps).map (·.2)) ∧ (mergeD ds ps).map (·.1) = (Dear.mergeT kvs more).map (fun p => keysD p.1)
  | [], [], _, _, _, _, h, e => ⟨h, e⟩
  | [], _ :: _, _, _, _, e, _, _ => by simp at e
  | _ :: _, [], _, _, _, e, _, _ => by simp at e
  | m :: more, p :: ps, kvs, ds, h, e, h0, e0 => by
    simp only [List.map_cons] at h e
    cases h with
    | cons a b =>
      injection e with e1 e2
      obtain ⟨z1, z2⟩ := putT_of (k := m.1) a h0 e0
      exact mergeT_of (kvs := putK kvs m.1 m.2.2) (ds := dPut ds p.1 p.2) b e2 (by rw [e1]; exact z1) (by rw [e1]; exact z2)
theorem pairsT_at {F H : Hp} (s : Same F H) : ∀ {xs : List V} {ds : List D} {qs : List (D × D)}, DtAll K F xs ds → asPairsT ds = some qs → ∃ (as : List Addr) (kvs : List (List Key × Addr × V)), xs = as.map V.ref ∧
    Paired (fun p kv => SqT K H p [.ref kv.2.1, kv.2.2] ∧ H kv.2.1 = some (.tup (kv.1.map kV))) as kvs ∧ DtAll K F (kvs.map (·.2.2)) (qs.map (·.2)) ∧ qs.map (·.1) = kvs.map (fun p => keysD p.1) := by
  intro xs ds qs h
  induction xs generalizing ds qs with
  | nil =>
    cases h
    intro e
    cases e
    exact ⟨[], [], rfl, .nil, .nil, rfl⟩
  | cons v xs ih =>
    cases h with
    | @cons _ _ d ds a b =>
      intro e
      unfold asPairsT at e
      split at e
      · rename_i h0
        cases h0
      · rename_i k w r h0
        injection h0 with h1 h2
        subst h1 h2
        by_cases ok : sKeyOk k = true
        · rw [if_pos ok] at e
          obtain ⟨m, hm, rfl⟩ := Option.map_eq_some_iff.mp e
          obtain ⟨as, kvs, rfl, q1, q2, q3⟩ := ih b hm
          obtain ⟨p, ys, rfl, t1, t2⟩ := a.tupE
          obtain ⟨x, y, rfl, t3, t4⟩ := t2.two
          obtain ⟨u, key, rfl, e1, rfl⟩ := sKeyE t3 ok
          exact ⟨p :: as, (key, u, y) :: kvs, rfl, .cons ⟨(Below.of s).sqt t1, s _ _ e1⟩ q1, .cons t4 q2, by rw [List.map_cons, List.map_cons, q3]⟩
        · rw [if_neg ok] at e; cases e
      · cases e
theorem cd_dictT : CallD K (Dear.rDictT K) dDictT := by
  intro xm σ F H xs ds Q s hd k
  unfold dDictT at k
  split at k
  · obtain ⟨v, rfl, h⟩ := hd.one
    obtain ⟨p, ys, rfl, h1, h2⟩ := h.lstE
    split at k
    · rename_i ps e
      obtain ⟨as, kvs, rfl, q1, q2, q3⟩ := pairsT_at s h2 e
      obtain ⟨z1, z2⟩ := mergeT_of (kvs := []) (ds := []) q2 q3 .nil rfl
      exact ⟨p, as, kvs, rfl, SqL.of (s _ _ h1), q1, fun l hl => k.new s hl (.dt upd_same (z1.same (sm_upd (s.free hl))) z2)⟩
    · exact k.elim
  · exact k.elim
theorem call_dictT_k (hu : X.A.units + 64 < cLine) (hc : X.calm = true) (h : X.K = K := by rfl) : CallR X (.type "dict") (Dear.rDictT K) := h ▸ Dear.call_dictT hu hc
end
end Du

namespace Du
open PySem PySem.Spec PyProof.Rows L2
section
variable {K : PySem.W.Frag} {X : Cx} {B : Bs} {Dn : Ends} {ρ : Env} {σ : St} {H F : Hp}
/-! ### for x in l, l an own list that stays own -/
def unS : Option Slot → Option Slot
  | some (.own _ d) => some (.own false d)
  | s => s
def unp (ρ : Env) : Env := ρ.map unS
def unO : Out → Out
  | .nx ρ => .nx (unp ρ)
  | .bk ρ => .bk (unp ρ)
  | .ct ρ => .ct (unp ρ)
  | .rt d ρ => .rt d (unp ρ)
  | .ro d ρ => .ro d (unp ρ)
  | .ex x ρ => .ex x (unp ρ)
  | .bad => .bad
def noT : Env → Bool
  | [] => true
  | some (.own true _) :: _ => false
  | _ :: r => noT r
def ownAt (ρ : Env) (i : Nat) : Option (List D) := match ρ[i]? with
  | some (some (.own true (.lst ds))) => some ds
  | _ => none
open Classical in
noncomputable def forO (i : Nat) (ds0 : List D) (tg : Tgt) (g : Env → Out) (l : List Nat) : List D → Env → Out
  | [], ρ => if ownAt ρ i = some ds0 then .nx ρ else .bad
  | d :: ds, ρ => if ownAt ρ i = some ds0 then (match tg d with
    | .ok as => loopO (fun ρ' => forO i ds0 tg g l ds (clr l ρ')) (g (setS ρ as))
    | _ => .bad) else .bad
noncomputable def sForO (i : Nat) (tg : Tgt) (g : Env → Out) (l : List Nat) : Env → Out := fun ρ => match ρ[i]? with
  | some (some (.own false (.lst ds))) => if noT ρ = true then unO (forO i ds tg g l ds (ρ.set i (some (.own true (.lst ds))))) else .bad
  | _ => .bad
theorem unp_get (ρ : Env) (i : Nat) : (unp ρ)[i]? = (ρ[i]?).map unS := by
  unfold unp
  rw [List.getElem?_map]
theorem Rl.unp {p : Addr} (r : Rl K ⟨B.b, B.g, p⟩ σ H ρ F) : Rl K B σ H (Du.unp ρ) F := by
  refine ⟨r.fh, r.bh, r.zf, by rw [r.len]; unfold Du.unp; rw [List.length_map], fun i d e => ?_, fun i t d e => ?_, fun i j t u d e p h1 h2 h3 h4 => ?_, fun i d p h1 h2 => ?_⟩
  · rw [unp_get] at e
    obtain ⟨s, h1, h2⟩ := Option.map_eq_some_iff.mp e
    cases s with
    | none => cases h2
    | some s =>
      cases s with
      | frz d' => cases h2; exact r.fz i _ h1
      | own t d' => cases h2
  · rw [unp_get] at e
    obtain ⟨s, h1, h2⟩ := Option.map_eq_some_iff.mp e
    cases s with
    | none => cases h2
    | some s =>
      cases s with
      | frz d' => cases h2
      | own t' d' => cases h2; exact r.ow i _ _ h1
  · rw [unp_get] at h1 h2
    obtain ⟨s, a1, a2⟩ := Option.map_eq_some_iff.mp h1
    obtain ⟨s', b1, b2⟩ := Option.map_eq_some_iff.mp h2
    cases s with
    | none => cases a2
    | some s =>
      cases s with
      | frz d' => cases a2
      | own t' d' =>
        cases s' with
        | none => cases b2
        | some s' =>
          cases s' with
          | frz d' => cases b2
          | own t'' d'' => exact r.dj i j _ _ _ _ p a1 b1 h3 h4
  · rw [unp_get] at h1
    obtain ⟨s, a1, a2⟩ := Option.map_eq_some_iff.mp h1
    cases s with
    | none => cases a2
    | some s =>
      cases s with
      | frz d' => cases a2
      | own t' d' => cases a2
theorem So.unp {p : Addr} : ∀ {o : Out}, So K none B Dn (unO o) → So K none ⟨B.b, B.g, p⟩ Dn o
  | .nx ρ, k => fun σ H F r => k σ H F r.unp
  | .bk ρ, k => fun σ H F r => k σ H F r.unp
  | .ct ρ, k => fun σ H F r => k σ H F r.unp
  | .rt d ρ, k => fun v σ H F r => k v σ H F r.unp
  | .ro d ρ, k => fun q σ H F r => k q σ H F r.unp
  | .ex x ρ, k => k
  | .bad, k => k
end
end Du

namespace Dear
open PySem PySem.Spec PyProof.Rows L2
abbrev Asc (z : Str) : Prop := ∀ c ∈ z.cps.toList, c < 128
end Dear

namespace Dear
open PySem PySem.Spec PyProof.Rows L2
/-! ### zip(text, text), two texts of plain signs -/
def ascB (x : Str) : Bool := x.cps.all (· < 128)
abbrev zsI (x : Str) (t : Tok) : Obj := { cls := .type "str_ascii_iterator", data := .fields #[.str x t, .int 0 0] }
abbrev zs1 (h : Heap) (x : Str) (t : Tok) : Heap := h.push (zsI x t)
abbrev zs2 (h : Heap) (x : Str) (t : Tok) (y : Str) (u : Tok) : Heap := (zs1 h x t).push (zsI y u)
abbrev zs3 (h : Heap) (x : Str) (t : Tok) (y : Str) (u : Tok) : Heap := (zs2 h x t y u).push { cls := .type "tuple", data := .seq #[.ref h.objs.size, .ref (zs1 h x t).objs.size] }
abbrev zs4 (h : Heap) (x : Str) (t : Tok) (y : Str) (u : Tok) : Heap := (zs3 h x t y u).push { cls := .type "tuple", data := .seq #[.none, .none] }
abbrev zs5 (h : Heap) (x : Str) (t : Tok) (y : Str) (u : Tok) : Heap := (zs4 h x t y u).push { cls := .type "zip", data := .fields #[.none, .bool false, .bool false, .ref (zs2 h x t y u).objs.size, .ref (zs3 h x t y u).objs.size] }
section
variable {prog : Program} {w : World} {A : Around} {E : Value → Shared → Prop} {s : Shared}
end
/-- the signs of both, pair by pair, each pair a new tuple -/
def ItzS (x y : Str) : It :=
  ⟨fun i _ => i < x.cps.size ∧ i < y.cps.size,
    fun i H v H' => ∃ (T : Addr) (c d : Nat), v = .ref T ∧ H T = none ∧ H' = upd H T (.tup [.str ⟨#[c]⟩, .str ⟨#[d]⟩]) ∧ x.cps[i]? = some c ∧ y.cps[i]? = some d,
    fun i _ => i ≤ x.cps.size ∧ i ≤ y.cps.size ∧ (i = x.cps.size ∨ i = y.cps.size)⟩
def iZipS (ta : TA) : TI := fun σ H R => ta σ H fun vs H1 => ∃ x y : Str, vs = [.str x, .str y] ∧ Asc x ∧ Asc y ∧ R (ItzS x y) H1
end Dear

namespace Dear
open PySem PySem.Spec PyProof.Rows L2
/-! ### enumerate(zip(list, list)): the pair stands within enumerate's own tuple, so zip finds it still out -/
section
variable {prog : Program} {w : World} {A : Around} {E : Value → Shared → Prop} {s : Shared} {q U V j1 j2 m1 m2 : Addr} {n1 n2 : Nat} {as bs : Array Value}
/-- the zip's state: nothing out yet, or the tuple at T once given out -/
def ZSt (h : Heap) (q U V : Addr) : Prop := IsZip h q U V .none ∨ ∃ T f, IsZipHeld h q U V T f
theorem ZSt.type {h : Heap} (z : ZSt h q U V) : ∃ o, h.get? q = some o ∧ o.cls = .type "zip" ∧ ∀ v, o.data ≠ .cell v := by
  rcases z with z | ⟨T, f, z⟩
  · exact ⟨_, z, rfl, fun v e => nomatch e⟩
  · exact ⟨_, z, rfl, fun v e => nomatch e⟩
theorem ZSt.at {h h' : Heap} (z : ZSt h q U V) (e : ∀ o, h.get? q = some o → h'.get? q = some o) : ZSt h' q U V := by
  rcases z with z | ⟨T, f, z⟩
  · exact .inl (e _ z)
  · exact .inr ⟨T, f, e _ z⟩
abbrev ZGone (h : Heap) (q U V : Addr) (x : Value) (f : Bool) : Prop :=
  h.get? q = some { cls := .type "zip", dict := none, data := .fields #[x, .bool f, .bool false, .ref U, .ref V], slots := #[] }
end
/-- both lists as they stand at each turn; each pair, and the tuple of its number and it, are new -/
def Itez (K : PySem.W.Frag) (a b : Addr) : It :=
  ⟨fun i H => ∃ (xs ys : List V) (x y : V), SqL K H a xs ∧ SqL K H b ys ∧ xs[i]? = some x ∧ ys[i]? = some y,
    fun i H v H' => ∃ Z T x y, v = .ref T ∧ H Z = none ∧ T ≠ Z ∧ H T = none ∧ H' = upd (upd H Z (.tup [x, y])) T (.tup [.int (i : Nat), .ref Z]) ∧ (∀ xs, SqL K H a xs → xs[i]? = some x) ∧ ∀ ys, SqL K H b ys → ys[i]? = some y,
    fun i H => ∃ xs ys : List V, SqL K H a xs ∧ SqL K H b ys ∧ (xs.length ≤ i ∨ ys.length ≤ i)⟩
def iEnumZ (K : PySem.W.Frag) (ta : TA) : TI := fun σ H R => ta σ H fun vs H1 => ∃ a b xs ys, vs = [.ref a, .ref b] ∧ SqL K H1 a xs ∧ SqL K H1 b ys ∧ R (Itez K a b) H1
end Dear

namespace Du
open PySem PySem.Spec PyProof.Rows L2
section
variable {K : PySem.W.Frag} {xm : XMo} {X : Cx}
/-! ### enumerate(zip(list, list)) -/
def dEnumZ : List D → Res (List D)
  | [.lst as, .lst bs] => .ok (numbered 0 (pairs as bs))
  | _ => .bad
def iEnumZD (f : VEnv → Res (List D)) : VEnv → Res (List D) := fun ρ => (f ρ).bind dEnumZ
theorem Gr.thn {F1 H1 F2 H2 F3 H3 : Hp} (a : Gr F1 H1 F2 H2) (b : Gr F2 H2 F3 H3) : Gr F1 H1 F3 H3 := a.trans b
/-! ### zip(text, text) -/
def dZipS : List D → Res (List D)
  | [.str a, .str b] => if (a.cps.toList.all (fun c => decide (c < 128)) && b.cps.toList.all (fun c => decide (c < 128))) = true then .ok (pairs (signs a) (signs b)) else .bad
  | _ => .bad
def iZipSD (f : VEnv → Res (List D)) : VEnv → Res (List D) := fun ρ => (f ρ).bind dZipS
/-! ### x.pop(i), x own -/
def popK (i : Nat) (d : D) (ρ : Env) : MO D := match d with
  | .int n => match ownL ρ i with
    | some (t, ds) => if inR n = true then match seqIndex? n ds.length with
      | some j => match ds[j]? with
        | some e => .ok e (ρ.set i (some (.own t (.lst (ds.eraseIdx j)))))
        | none => .bad
      | none => .bad else .bad
    | none => .bad
  | _ => .bad
def mPopAt (i : Nat) (m : Env → MO D) : Env → MO D := fun ρ => if (ownL ρ i).isSome = true then (m ρ).bind (popK i) else .bad
theorem DtAll.eraseIdx {F : Hp} {vs : List V} {ds : List D} (h : DtAll K F vs ds) (j : Nat) : DtAll K F (vs.eraseIdx j) (ds.eraseIdx j) := by
  rw [List.eraseIdx_eq_take_drop_succ, List.eraseIdx_eq_take_drop_succ]
  exact (h.take j).app (h.drop (j + 1))
end
end Du

namespace Dear
open PySem PySem.Spec PyProof.Rows L2
/-! ### xs[a::s], s above nought -/
def pickD {α : Type} (xs : List α) (i c : Int) : List α := (sliceRange (sliceBounds (some i) none (some c) xs.length).1 (sliceBounds (some i) none (some c) xs.length).2.1 (sliceBounds (some i) none (some c) xs.length).2.2).filterMap (xs[·]?)
def tSlS (K : PySem.W.Frag) (te tl ts : TE) : TE := fun σ H Q => te σ H fun x H1 => tPart tl σ H1 fun l H2 => tPart ts σ H2 fun o H3 => ∃ (a : Addr) (xs : List V) (i c : Int), x = .ref a ∧ l = some i ∧ o = some c ∧ 0 < c ∧ SqL K H3 a xs ∧ ∀ p, H3 p = none → Q (.ref p) (upd H3 p (.lst (pickD xs i c)))
end Dear
namespace Du
open PySem PySem.Spec PyProof.Rows L2
section
variable {K : PySem.W.Frag} {xm : XMo} {X : Cx}
def eSlS (fe fl fs : VEnv → Res D) : VEnv → Res D := fun ρ => (fe ρ).bind fun a => (fl ρ).bind fun l => match l with
  | .int i => (fs ρ).bind fun s => match a, s with
    | .lst ds, .int c => if decide (0 < c) = true then .ok (.lst (Dear.pickD ds i c)) else .bad
    | _, _ => .bad
  | _ => .bad
end
end Du

namespace Du
open PySem PySem.Spec PyProof.Rows L2
/-! ### a def that the text calls by another name -/
section
variable {P : Program} {w : World} {K : PySem.W.Frag} {mg : Str → Option Value} {base : Heap}
end
end Du

namespace Dear
open PySem PySem.Spec PyProof.Rows L2
/-! ### xs <= ys, lists of whole numbers -/
def lexLe : List Int → List Int → Bool
  | [], _ => true
  | _ :: _, [] => false
  | x :: xs, y :: ys => if x = y then lexLe xs ys else decide (x ≤ y)
def rLeL (K : PySem.W.Frag) : R2 := fun x y H Q => ∃ (a b : Addr) (ns ms : List Int), x = .ref a ∧ y = .ref b ∧ SqL K H a (ns.map V.int) ∧ SqL K H b (ms.map V.int) ∧ Q (.bl (lexLe ns ms)) H
end Dear
namespace Du
open PySem PySem.Spec PyProof.Rows L2
section
variable {K : PySem.W.Frag} {xm : XMo} {X : Cx}
def intsD : List D → Option (List Int)
  | [] => some []
  | .int i :: ds => (intsD ds).map (i :: ·)
  | _ :: _ => none
def dLeX : D → D → Res D
  | .int a, .int b => .ok (.bl (decide (a ≤ b)))
  | .lst as, .lst bs => match intsD as, intsD bs with
    | some ns, some ms => .ok (.bl (Dear.lexLe ns ms))
    | _, _ => .bad
  | _, _ => .bad
def rLeX (K : PySem.W.Frag) : R2 := fun x y H Q => rI0 (fun i j => .bl (decide (i ≤ j))) x y H Q ∨ Dear.rLeL K x y H Q
end
end Du

namespace Du
open PySem PySem.Spec PyProof.Rows L2
/-! ### a, b, .. = a list -/
def tgTL (ts : List Tgt) : Tgt := fun d => match d with
  | .lst ds => tgL ts ds
  | _ => .bad
@[simp] theorem tgTL_e {ts : List Tgt} {ds : List D} : tgTL ts (.lst ds) = tgL ts ds := id rfl
section
variable {K : PySem.W.Frag} {X : Cx}
end
end Du

namespace Du
open PySem PySem.Spec PyProof.Rows L2
/-! ### and, or, not as values, of parts that change -/
section
variable {K : PySem.W.Frag} {xm : XMo} {X : Cx}
def mAndV (m n : Env → MO D) : Env → MO D := fun ρ => (m ρ).bind fun a ρ1 => match a with
  | .bl true => n ρ1
  | .bl false => .ok (.bl false) ρ1
  | _ => .bad
def mOrV (m n : Env → MO D) : Env → MO D := fun ρ => (m ρ).bind fun a ρ1 => match a with
  | .bl true => .ok (.bl true) ρ1
  | .bl false => n ρ1
  | _ => .bad
theorem me_one {op : BoolOp} {a : Expr} {pos : Pos} {m : Env → MO D} (h : ME K xm X a m) : ME K xm X (.BoolOp op [a] pos) m := pe_one h
theorem me_and {a b : Expr} {rest : List Expr} {pos : Pos} {m n : Env → MO D} (h : ME K xm X a m) (r : ME K xm X (.BoolOp .And (b :: rest) pos) n) (hk : X.K = K := by rfl) : ME K xm X (.BoolOp .And (a :: b :: rest) pos) (mAndV m n) := by
  subst hk
  exact PE.to (pe_andT h r) fun σ H Q ⟨B, ρ, F, r, k⟩ => ⟨B, ρ, F, r, Pm.seq (R := RD _) k fun a ρ1 x H1 F1 r1 s1 d1 k1 => by
    cases a with
    | bl b =>
      refine ⟨b, tru_of r1.fh d1 rfl, ?_⟩
      cases b with
      | true => exact iteT ⟨B, ρ1, F1, r1, k1⟩
      | false => exact iteF (Pm.done (R := RD _) k1 r1 d1)
    | _ => exact k1.elim⟩
end
end Du

namespace Dear
open PySem PySem.Spec PyProof.Rows L2
def top (i : Nat) : Stmt := PySem.Challenge.pw_dearsigns_k37_many_texts.main.body.getD i (.Pass ⟨0, 0, 0, 0⟩)
abbrev s_NoTongue___init__ : Stmt := inClass (top 2) 0
abbrev s_NoWants___init__ : Stmt := inClass (top 3) 0
abbrev s_is_whole : Stmt := top 7
abbrev s_is_name : Stmt := top 8
abbrev s_divisor : Stmt := top 9
abbrev s_is_fraction : Stmt := top 10
abbrev s_lowest : Stmt := top 11
abbrev s_plus : Stmt := top 12
abbrev s_times : Stmt := top 13
abbrev s_under : Stmt := top 14
abbrev s_sum_of : Stmt := top 15
abbrev s_is_price : Stmt := top 21
abbrev s_is_letter : Stmt := top 22
abbrev s_is_sign : Stmt := top 23
abbrev s_are_signs : Stmt := top 24
abbrev s_are_unlike_texts : Stmt := top 25
abbrev s_look_at_tongue : Stmt := top 26
abbrev s_is_want : Stmt := top 30
abbrev s_look_at_wants : Stmt := top 31
abbrev s_comes : Stmt := top 33
abbrev s_may_come : Stmt := top 34
abbrev s_is_amount : Stmt := top 39
abbrev s_are_amounts : Stmt := top 40
abbrev s_is_part : Stmt := top 41
abbrev s_are_parts : Stmt := top 42
abbrev s_are_shares : Stmt := top 43
abbrev s_parts_by_signs : Stmt := top 44
abbrev s_signs_behind : Stmt := top 45
abbrev s_holds_for : Stmt := top 46
abbrev s_lets_shares : Stmt := top 47
abbrev s__law_cell_at : Stmt := top 49
abbrev s__law_source : Stmt := top 50
abbrev s__law_draw : Stmt := top 51
abbrev s__law_case : Stmt := top 52
abbrev s__law_tongue : Stmt := top 53
abbrev s__law_parts : Stmt := top 54
abbrev s_law : Stmt := top 55
abbrev n_NoTongue___init__ : List Str := ["self", "part"]
abbrev n_NoWants___init__ : List Str := ["self", "number"]
abbrev n_is_whole : List Str := ["thing"]
theorem c_is_whole : FnScope n_is_whole ["thing"] (defScope s_is_whole) := ⟨rfl, rfl, rfl, by decide +kernel, rfl, by decide +kernel, by decide +kernel⟩
abbrev n_is_name : List Str := ["thing", "sign"]
theorem c_is_name : FnScope n_is_name ["thing"] (defScope s_is_name) := ⟨rfl, rfl, rfl, by decide +kernel, rfl, by decide +kernel, by decide +kernel⟩
abbrev n_divisor : List Str := ["one", "other"]
theorem c_divisor : FnScope n_divisor ["one", "other"] (defScope s_divisor) := ⟨rfl, rfl, rfl, by decide +kernel, rfl, by decide +kernel, by decide +kernel⟩
abbrev n_is_fraction : List Str := ["thing", "top", "bottom"]
theorem c_is_fraction : FnScope n_is_fraction ["thing"] (defScope s_is_fraction) := ⟨rfl, rfl, rfl, by decide +kernel, rfl, by decide +kernel, by decide +kernel⟩
abbrev n_lowest : List Str := ["top", "bottom", "share"]
theorem c_lowest : FnScope n_lowest ["top", "bottom"] (defScope s_lowest) := ⟨rfl, rfl, rfl, by decide +kernel, rfl, by decide +kernel, by decide +kernel⟩
abbrev n_plus : List Str := ["one", "other"]
theorem c_plus : FnScope n_plus ["one", "other"] (defScope s_plus) := ⟨rfl, rfl, rfl, by decide +kernel, rfl, by decide +kernel, by decide +kernel⟩
abbrev n_times : List Str := ["one", "other"]
theorem c_times : FnScope n_times ["one", "other"] (defScope s_times) := ⟨rfl, rfl, rfl, by decide +kernel, rfl, by decide +kernel, by decide +kernel⟩
abbrev n_under : List Str := ["one", "other"]
theorem c_under : FnScope n_under ["one", "other"] (defScope s_under) := ⟨rfl, rfl, rfl, by decide +kernel, rfl, by decide +kernel, by decide +kernel⟩
abbrev n_sum_of : List Str := ["some", "found", "one"]
theorem c_sum_of : FnScope n_sum_of ["some"] (defScope s_sum_of) := ⟨rfl, rfl, rfl, by decide +kernel, rfl, by decide +kernel, by decide +kernel⟩
abbrev n_is_price : List Str := ["thing"]
theorem c_is_price : FnScope n_is_price ["thing"] (defScope s_is_price) := ⟨rfl, rfl, rfl, by decide +kernel, rfl, by decide +kernel, by decide +kernel⟩
abbrev n_is_letter : List Str := ["thing"]
theorem c_is_letter : FnScope n_is_letter ["thing"] (defScope s_is_letter) := ⟨rfl, rfl, rfl, by decide +kernel, rfl, by decide +kernel, by decide +kernel⟩
abbrev n_is_sign : List Str := ["thing", "sign", "price", "last"]
theorem c_is_sign : FnScope n_is_sign ["thing"] (defScope s_is_sign) := ⟨rfl, rfl, rfl, by decide +kernel, rfl, by decide +kernel, by decide +kernel⟩
abbrev n_are_signs : List Str := ["thing", "one"]
theorem c_are_signs : FnScope n_are_signs ["thing"] (defScope s_are_signs) := ⟨rfl, rfl, rfl, by decide +kernel, rfl, by decide +kernel, by decide +kernel⟩
abbrev n_are_unlike_texts : List Str := ["thing", "size", "letters", "at", "one", "sign"]
theorem c_are_unlike_texts : FnScope n_are_unlike_texts ["thing", "size", "letters"] (defScope s_are_unlike_texts) := ⟨rfl, rfl, rfl, by decide +kernel, rfl, by decide +kernel, by decide +kernel⟩
abbrev n_look_at_tongue : List Str := ["thing", "signs", "firsts", "pairs", "longest", "letters", "one"]
theorem c_look_at_tongue : FnScope n_look_at_tongue ["thing"] (defScope s_look_at_tongue) := ⟨rfl, rfl, rfl, by decide +kernel, rfl, by decide +kernel, by decide +kernel⟩
abbrev n_is_want : List Str := ["thing"]
theorem c_is_want : FnScope n_is_want ["thing"] (defScope s_is_want) := ⟨rfl, rfl, rfl, by decide +kernel, rfl, by decide +kernel, by decide +kernel⟩
abbrev n_look_at_wants : List Str := ["thing", "names", "number", "want"]
theorem c_look_at_wants : FnScope n_look_at_wants ["thing"] (defScope s_look_at_wants) := ⟨rfl, rfl, rfl, by decide +kernel, rfl, by decide +kernel, by decide +kernel⟩
abbrev n_comes : List Str := ["tongue", "ahead", "sign"]
theorem c_comes : FnScope n_comes ["tongue", "ahead", "sign"] (defScope s_comes) := ⟨rfl, rfl, rfl, by decide +kernel, rfl, by decide +kernel, by decide +kernel⟩
abbrev n_may_come : List Str := ["tongue", "ahead", "sign"]
theorem c_may_come : FnScope n_may_come ["tongue", "ahead", "sign"] (defScope s_may_come) := ⟨rfl, rfl, rfl, by decide +kernel, rfl, by decide +kernel, by decide +kernel⟩
abbrev n_is_amount : List Str := ["thing"]
theorem c_is_amount : FnScope n_is_amount ["thing"] (defScope s_is_amount) := ⟨rfl, rfl, rfl, by decide +kernel, rfl, by decide +kernel, by decide +kernel⟩
abbrev n_are_amounts : List Str := ["thing", "many", "one"]
theorem c_are_amounts : FnScope n_are_amounts ["thing", "many"] (defScope s_are_amounts) := ⟨rfl, rfl, rfl, by decide +kernel, rfl, by decide +kernel, by decide +kernel⟩
abbrev n_is_part : List Str := ["signs", "thing", "ahead", "sign"]
theorem c_is_part : FnScope n_is_part ["signs", "thing"] (defScope s_is_part) := ⟨rfl, rfl, rfl, by decide +kernel, rfl, by decide +kernel, by decide +kernel⟩
abbrev n_are_parts : List Str := ["signs", "thing", "ahead", "one"]
theorem c_are_parts : FnScope n_are_parts ["signs", "thing"] (defScope s_are_parts) := ⟨rfl, rfl, rfl, by decide +kernel, rfl, by decide +kernel, by decide +kernel⟩
abbrev n_are_shares : List Str := ["tongue", "many", "thing", "sign", "price", "last"]
theorem c_are_shares : FnScope n_are_shares ["tongue", "many", "thing"] (defScope s_are_shares) := ⟨rfl, rfl, rfl, by decide +kernel, rfl, by decide +kernel, by decide +kernel⟩
abbrev n_parts_by_signs : List Str := ["parts", "ahead", "sign", "part"]
theorem c_parts_by_signs : FnScope n_parts_by_signs ["parts"] (defScope s_parts_by_signs) := ⟨rfl, rfl, rfl, by decide +kernel, rfl, by decide +kernel, by decide +kernel⟩
abbrev n_signs_behind : List Str := ["tongue", "found", "ahead", "sign", "price", "last", "row"]
theorem c_signs_behind : FnScope n_signs_behind ["tongue"] (defScope s_signs_behind) := ⟨rfl, rfl, rfl, by decide +kernel, rfl, by decide +kernel, by decide +kernel⟩
abbrev n_holds_for : List Str := ["longest", "behind", "count", "value", "whole", "by_signs", "often", "waiting", "looked", "text", "way", "share", "sign", "price", "last", "own"]
theorem c_holds_for : FnScope n_holds_for ["longest", "behind", "count", "value", "whole", "by_signs"] (defScope s_holds_for) := ⟨rfl, rfl, rfl, by decide +kernel, rfl, by decide +kernel, by decide +kernel⟩
abbrev n_lets_shares : List Str := ["tongue", "wants", "thing", "whole", "parts", "values", "by_signs", "behind", "name", "count", "value"]
theorem c_lets_shares : FnScope n_lets_shares ["tongue", "wants", "thing"] (defScope s_lets_shares) := ⟨rfl, rfl, rfl, by decide +kernel, rfl, by decide +kernel, by decide +kernel⟩
abbrev n__law_cell_at : List Str := ["_law_script", "_law_k"]
theorem c__law_cell_at : FnScope n__law_cell_at ["_law_script", "_law_k"] (defScope s__law_cell_at) := ⟨rfl, rfl, rfl, by decide +kernel, rfl, by decide +kernel, by decide +kernel⟩
abbrev n__law_source : List Str := ["_law_cell", "_law_k", "_law_seed"]
theorem c__law_source : FnScope n__law_source ["_law_cell", "_law_k"] (defScope s__law_source) := ⟨rfl, rfl, rfl, by decide +kernel, rfl, by decide +kernel, by decide +kernel⟩
abbrev n__law_draw : List Str := ["_law_source_here", "_law_many", "_law_digit"]
theorem c__law_draw : FnScope n__law_draw ["_law_source_here", "_law_many"] (defScope s__law_draw) := ⟨rfl, rfl, rfl, by decide +kernel, rfl, by decide +kernel, by decide +kernel⟩
abbrev n__law_case : List Str := ["_law_source_here", "_law_many", "_law_fits", "_law_deep", "_law_longest", "_law_count"]
theorem c__law_case : FnScope n__law_case ["_law_source_here"] (defScope s__law_case) := ⟨rfl, rfl, rfl, by decide +kernel, rfl, by decide +kernel, by decide +kernel⟩
abbrev n__law_tongue : List Str := ["_law_source_here", "_law_many", "_law_longest", "_law_signs", "_law_k"]
theorem c__law_tongue : FnScope n__law_tongue ["_law_source_here", "_law_many", "_law_longest"] (defScope s__law_tongue) := ⟨rfl, rfl, rfl, by decide +kernel, rfl, by decide +kernel, by decide +kernel⟩
abbrev n__law_parts : List Str := ["_law_many", "_law_parts_here", "_law_ahead", "_law_sign"]
theorem c__law_parts : FnScope n__law_parts ["_law_many"] (defScope s__law_parts) := ⟨rfl, rfl, rfl, by decide +kernel, rfl, by decide +kernel, by decide +kernel⟩
abbrev n_law : List Str := ["_law_script", "_law_source_here", "_law_many", "_law_fits", "_law_deep", "_law_longest", "_law_count", "_law_tongue_here", "_law_whole", "_law_k", "_law_wants", "_law_values", "_law_due", "_law_twice", "_law_shares", "_law_found", "_law_turned"]
theorem c_law : FnScope n_law ["_law_script"] (defScope s_law) := ⟨rfl, rfl, rfl, by decide +kernel, rfl, by decide +kernel, by decide +kernel⟩
structure Ads where
  DearError : Addr
  NoTongue : Addr
  NoWants : Addr
/-- what the top has left -/
structure Txt (K : PySem.W.Frag) (mg : Str → Option Value) where
  A : Ads
  C_DearError : mg "DearError" = some (.ref A.DearError)
  C_NoTongue : mg "NoTongue" = some (.ref A.NoTongue)
  C_NoWants : mg "NoWants" = some (.ref A.NoWants)
  f_is_whole : Df K mg "is_whole" s_is_whole ["thing"]
  f_is_name : Df K mg "is_name" s_is_name ["thing"]
  f_divisor : Df K mg "divisor" s_divisor ["one", "other"]
  f_is_fraction : Df K mg "is_fraction" s_is_fraction ["thing"]
  f_lowest : Df K mg "lowest" s_lowest ["top", "bottom"]
  f_plus : Df K mg "plus" s_plus ["one", "other"]
  f_times : Df K mg "times" s_times ["one", "other"]
  f_under : Df K mg "under" s_under ["one", "other"]
  f_sum_of : Df K mg "sum_of" s_sum_of ["some"]
  f_is_price : Df K mg "is_price" s_is_price ["thing"]
  f_is_letter : Df K mg "is_letter" s_is_letter ["thing"]
  f_is_sign : Df K mg "is_sign" s_is_sign ["thing"]
  f_are_signs : Df K mg "are_signs" s_are_signs ["thing"]
  f_are_unlike_texts : Df K mg "are_unlike_texts" s_are_unlike_texts ["thing", "size", "letters"]
  f_look_at_tongue : Df K mg "look_at_tongue" s_look_at_tongue ["thing"]
  f_is_want : Df K mg "is_want" s_is_want ["thing"]
  f_look_at_wants : Df K mg "look_at_wants" s_look_at_wants ["thing"]
  f_comes : Df K mg "comes" s_comes ["tongue", "ahead", "sign"]
  f_may_come : Df K mg "may_come" s_may_come ["tongue", "ahead", "sign"]
  f_is_amount : Df K mg "is_amount" s_is_amount ["thing"]
  f_are_amounts : Df K mg "are_amounts" s_are_amounts ["thing", "many"]
  f_is_part : Df K mg "is_part" s_is_part ["signs", "thing"]
  f_are_parts : Df K mg "are_parts" s_are_parts ["signs", "thing"]
  f_are_shares : Df K mg "are_shares" s_are_shares ["tongue", "many", "thing"]
  f_parts_by_signs : Df K mg "parts_by_signs" s_parts_by_signs ["parts"]
  f_signs_behind : Df K mg "signs_behind" s_signs_behind ["tongue"]
  f_holds_for : Df K mg "holds_for" s_holds_for ["longest", "behind", "count", "value", "whole", "by_signs"]
  f_lets_shares : Df K mg "lets_shares" s_lets_shares ["tongue", "wants", "thing"]
  f__law_cell_at : Df K mg "_law_cell_at" s__law_cell_at ["_law_script", "_law_k"]
  f__law_source : Df K mg "_law_source" s__law_source ["_law_cell", "_law_k"]
  f__law_draw : Df K mg "_law_draw" s__law_draw ["_law_source_here", "_law_many"]
  f__law_case : Df K mg "_law_case" s__law_case ["_law_source_here"]
  f__law_tongue : Df K mg "_law_tongue" s__law_tongue ["_law_source_here", "_law_many", "_law_longest"]
  f__law_parts : Df K mg "_law_parts" s__law_parts ["_law_many"]
  f_law : Df K mg "law" s_law ["_law_script"]
  g_LETTERS_numbers : ∃ t, mg "LETTERS_numbers" = some (.str "abcdefghijklmnopqrstuvwxyz" t)
  g_LONGEST_numbers : ∃ t, mg "LONGEST_numbers" = some (.int 8 t)
  g_LETTERS_tongues : ∃ t, mg "LETTERS_tongues" = some (.str "abcdefghijklmnopqrstuvwxyz" t)
  g_FEWEST_SIGNS : ∃ t, mg "FEWEST_SIGNS" = some (.int 2 t)
  g_MOST_SIGNS : ∃ t, mg "MOST_SIGNS" = some (.int 6 t)
  g_LONGEST_tongues : ∃ t, mg "LONGEST_tongues" = some (.int 8 t)
  g_MOST_THINGS : ∃ t, mg "MOST_THINGS" = some (.int 20 t)
  g_GREATEST_COUNT : ∃ t, mg "GREATEST_COUNT" = some (.int 1000000000 t)
  g_MOST_LOOKED : ∃ t, mg "MOST_LOOKED" = some (.int 5000 t)
  g_NOUGHT : ∃ a, mg "NOUGHT" = some (.ref a) ∧ Du.KTp K a [.int 0, .int 1]
  g_ONE : ∃ a, mg "ONE" = some (.ref a) ∧ Du.KTp K a [.int 1, .int 1]
  b_abs : mg "abs" = none
  b_all : mg "all" = none
  b_bool : mg "bool" = none
  b_dict : mg "dict" = none
  b_enumerate : mg "enumerate" = none
  b_int : mg "int" = none
  b_isinstance : mg "isinstance" = none
  b_len : mg "len" = none
  b_list : mg "list" = none
  b_max : mg "max" = none
  b_range : mg "range" = none
  b_set : mg "set" = none
  b_str : mg "str" = none
  b_tuple : mg "tuple" = none
  b_zip : mg "zip" = none
def txt_mk {K : PySem.W.Frag} {h : Heap} {mg : Str → Option Value} (X : K.In h) (G : h.Ns mainGlobals mg)
    {C_DearError : Addr} {C_NoTongue : Addr} {C_NoWants : Addr} 
    {f1 : Addr} {od1 an1 : Option Addr} {sl1 : Array (Option Value)} {oc1 kV1 dc1 pm1 cd1 ct1 : Value}
    {f2 : Addr} {od2 an2 : Option Addr} {sl2 : Array (Option Value)} {oc2 kV2 dc2 pm2 cd2 ct2 : Value}
    {f3 : Addr} {od3 an3 : Option Addr} {sl3 : Array (Option Value)} {oc3 kV3 dc3 pm3 cd3 ct3 : Value}
    {f4 : Addr} {od4 an4 : Option Addr} {sl4 : Array (Option Value)} {oc4 kV4 dc4 pm4 cd4 ct4 : Value}
    {f5 : Addr} {od5 an5 : Option Addr} {sl5 : Array (Option Value)} {oc5 kV5 dc5 pm5 cd5 ct5 : Value}
    {f6 : Addr} {od6 an6 : Option Addr} {sl6 : Array (Option Value)} {oc6 kV6 dc6 pm6 cd6 ct6 : Value}
    {f7 : Addr} {od7 an7 : Option Addr} {sl7 : Array (Option Value)} {oc7 kV7 dc7 pm7 cd7 ct7 : Value}
    {f8 : Addr} {od8 an8 : Option Addr} {sl8 : Array (Option Value)} {oc8 kV8 dc8 pm8 cd8 ct8 : Value}
    {f9 : Addr} {od9 an9 : Option Addr} {sl9 : Array (Option Value)} {oc9 kV9 dc9 pm9 cd9 ct9 : Value}
    {f10 : Addr} {od10 an10 : Option Addr} {sl10 : Array (Option Value)} {oc10 kV10 dc10 pm10 cd10 ct10 : Value}
    {f11 : Addr} {od11 an11 : Option Addr} {sl11 : Array (Option Value)} {oc11 kV11 dc11 pm11 cd11 ct11 : Value}
    {f12 : Addr} {od12 an12 : Option Addr} {sl12 : Array (Option Value)} {oc12 kV12 dc12 pm12 cd12 ct12 : Value}
    {f13 : Addr} {od13 an13 : Option Addr} {sl13 : Array (Option Value)} {oc13 kV13 dc13 pm13 cd13 ct13 : Value}
    {f14 : Addr} {od14 an14 : Option Addr} {sl14 : Array (Option Value)} {oc14 kV14 dc14 pm14 cd14 ct14 : Value}
    {f15 : Addr} {od15 an15 : Option Addr} {sl15 : Array (Option Value)} {oc15 kV15 dc15 pm15 cd15 ct15 : Value}
    {f16 : Addr} {od16 an16 : Option Addr} {sl16 : Array (Option Value)} {oc16 kV16 dc16 pm16 cd16 ct16 : Value}
    {f17 : Addr} {od17 an17 : Option Addr} {sl17 : Array (Option Value)} {oc17 kV17 dc17 pm17 cd17 ct17 : Value}
    {f18 : Addr} {od18 an18 : Option Addr} {sl18 : Array (Option Value)} {oc18 kV18 dc18 pm18 cd18 ct18 : Value}
    {f19 : Addr} {od19 an19 : Option Addr} {sl19 : Array (Option Value)} {oc19 kV19 dc19 pm19 cd19 ct19 : Value}
    {f20 : Addr} {od20 an20 : Option Addr} {sl20 : Array (Option Value)} {oc20 kV20 dc20 pm20 cd20 ct20 : Value}
    {f21 : Addr} {od21 an21 : Option Addr} {sl21 : Array (Option Value)} {oc21 kV21 dc21 pm21 cd21 ct21 : Value}
    {f22 : Addr} {od22 an22 : Option Addr} {sl22 : Array (Option Value)} {oc22 kV22 dc22 pm22 cd22 ct22 : Value}
    {f23 : Addr} {od23 an23 : Option Addr} {sl23 : Array (Option Value)} {oc23 kV23 dc23 pm23 cd23 ct23 : Value}
    {f24 : Addr} {od24 an24 : Option Addr} {sl24 : Array (Option Value)} {oc24 kV24 dc24 pm24 cd24 ct24 : Value}
    {f25 : Addr} {od25 an25 : Option Addr} {sl25 : Array (Option Value)} {oc25 kV25 dc25 pm25 cd25 ct25 : Value}
    {f26 : Addr} {od26 an26 : Option Addr} {sl26 : Array (Option Value)} {oc26 kV26 dc26 pm26 cd26 ct26 : Value}
    {f27 : Addr} {od27 an27 : Option Addr} {sl27 : Array (Option Value)} {oc27 kV27 dc27 pm27 cd27 ct27 : Value}
    {f28 : Addr} {od28 an28 : Option Addr} {sl28 : Array (Option Value)} {oc28 kV28 dc28 pm28 cd28 ct28 : Value}
    {f29 : Addr} {od29 an29 : Option Addr} {sl29 : Array (Option Value)} {oc29 kV29 dc29 pm29 cd29 ct29 : Value}
    {f30 : Addr} {od30 an30 : Option Addr} {sl30 : Array (Option Value)} {oc30 kV30 dc30 pm30 cd30 ct30 : Value}
    {f31 : Addr} {od31 an31 : Option Addr} {sl31 : Array (Option Value)} {oc31 kV31 dc31 pm31 cd31 ct31 : Value}
    {f32 : Addr} {od32 an32 : Option Addr} {sl32 : Array (Option Value)} {oc32 kV32 dc32 pm32 cd32 ct32 : Value}
    {f33 : Addr} {od33 an33 : Option Addr} {sl33 : Array (Option Value)} {oc33 kV33 dc33 pm33 cd33 ct33 : Value}
    {f34 : Addr} {od34 an34 : Option Addr} {sl34 : Array (Option Value)} {oc34 kV34 dc34 pm34 cd34 ct34 : Value}
    {f35 : Addr} {od35 an35 : Option Addr} {sl35 : Array (Option Value)} {oc35 kV35 dc35 pm35 cd35 ct35 : Value}
    {t36 : Tok}
    {t37 : Tok}
    {t38 : Tok}
    {t39 : Tok}
    {t40 : Tok}
    {t41 : Tok}
    {t42 : Tok}
    {t43 : Tok}
    {t44 : Tok}
    {T45 : Addr} {oD45 : Option Addr} {sD45 : Array (Option Value)} {n45 : Nat} {u45_0 u45_1 : Tok}
    {T46 : Addr} {oD46 : Option Addr} {sD46 : Array (Option Value)} {n46 : Nat} {u46_0 u46_1 : Tok}
    (g_DearError : PySem.W.nsIn K mainGlobals "DearError" = some (some (.ref C_DearError)))
    (i_DearError : PySem.W.isClsIn K C_DearError = true) (t_DearError : PySem.W.typeIn K (.ref C_DearError) = some (.type "type"))
    (g_NoTongue : PySem.W.nsIn K mainGlobals "NoTongue" = some (some (.ref C_NoTongue)))
    (i_NoTongue : PySem.W.isClsIn K C_NoTongue = true) (t_NoTongue : PySem.W.typeIn K (.ref C_NoTongue) = some (.type "type"))
    (g_NoWants : PySem.W.nsIn K mainGlobals "NoWants" = some (some (.ref C_NoWants)))
    (i_NoWants : PySem.W.isClsIn K C_NoWants = true) (t_NoWants : PySem.W.typeIn K (.ref C_NoWants) = some (.type "type"))
    (b_DearError : PySem.W.subIn K (.ref C_DearError) (.type "BaseException") = some true)
    (a1 : PySem.W.nsIn K mainGlobals "is_whole" = some (some (.ref f1))) (l1 : K.lookup f1 = some ⟨oc1, od1, .func (PySem.W.fnOf "is_whole" "is_whole" (defArgs s_is_whole) (defBody s_is_whole) (defScope s_is_whole) .none kV1 dc1 pm1 an1 cd1 ct1), sl1⟩) (c1 : PySem.W.codeIn K cd1 "is_whole" = true) (k1 : PySem.W.keepIn K (.ref f1) = true)
    (a2 : PySem.W.nsIn K mainGlobals "is_name" = some (some (.ref f2))) (l2 : K.lookup f2 = some ⟨oc2, od2, .func (PySem.W.fnOf "is_name" "is_name" (defArgs s_is_name) (defBody s_is_name) (defScope s_is_name) .none kV2 dc2 pm2 an2 cd2 ct2), sl2⟩) (c2 : PySem.W.codeIn K cd2 "is_name" = true) (k2 : PySem.W.keepIn K (.ref f2) = true)
    (a3 : PySem.W.nsIn K mainGlobals "divisor" = some (some (.ref f3))) (l3 : K.lookup f3 = some ⟨oc3, od3, .func (PySem.W.fnOf "divisor" "divisor" (defArgs s_divisor) (defBody s_divisor) (defScope s_divisor) .none kV3 dc3 pm3 an3 cd3 ct3), sl3⟩) (c3 : PySem.W.codeIn K cd3 "divisor" = true) (k3 : PySem.W.keepIn K (.ref f3) = true)
    (a4 : PySem.W.nsIn K mainGlobals "is_fraction" = some (some (.ref f4))) (l4 : K.lookup f4 = some ⟨oc4, od4, .func (PySem.W.fnOf "is_fraction" "is_fraction" (defArgs s_is_fraction) (defBody s_is_fraction) (defScope s_is_fraction) .none kV4 dc4 pm4 an4 cd4 ct4), sl4⟩) (c4 : PySem.W.codeIn K cd4 "is_fraction" = true) (k4 : PySem.W.keepIn K (.ref f4) = true)
    (a5 : PySem.W.nsIn K mainGlobals "lowest" = some (some (.ref f5))) (l5 : K.lookup f5 = some ⟨oc5, od5, .func (PySem.W.fnOf "lowest" "lowest" (defArgs s_lowest) (defBody s_lowest) (defScope s_lowest) .none kV5 dc5 pm5 an5 cd5 ct5), sl5⟩) (c5 : PySem.W.codeIn K cd5 "lowest" = true) (k5 : PySem.W.keepIn K (.ref f5) = true)
    (a6 : PySem.W.nsIn K mainGlobals "plus" = some (some (.ref f6))) (l6 : K.lookup f6 = some ⟨oc6, od6, .func (PySem.W.fnOf "plus" "plus" (defArgs s_plus) (defBody s_plus) (defScope s_plus) .none kV6 dc6 pm6 an6 cd6 ct6), sl6⟩) (c6 : PySem.W.codeIn K cd6 "plus" = true) (k6 : PySem.W.keepIn K (.ref f6) = true)
    (a7 : PySem.W.nsIn K mainGlobals "times" = some (some (.ref f7))) (l7 : K.lookup f7 = some ⟨oc7, od7, .func (PySem.W.fnOf "times" "times" (defArgs s_times) (defBody s_times) (defScope s_times) .none kV7 dc7 pm7 an7 cd7 ct7), sl7⟩) (c7 : PySem.W.codeIn K cd7 "times" = true) (k7 : PySem.W.keepIn K (.ref f7) = true)
    (a8 : PySem.W.nsIn K mainGlobals "under" = some (some (.ref f8))) (l8 : K.lookup f8 = some ⟨oc8, od8, .func (PySem.W.fnOf "under" "under" (defArgs s_under) (defBody s_under) (defScope s_under) .none kV8 dc8 pm8 an8 cd8 ct8), sl8⟩) (c8 : PySem.W.codeIn K cd8 "under" = true) (k8 : PySem.W.keepIn K (.ref f8) = true)
    (a9 : PySem.W.nsIn K mainGlobals "sum_of" = some (some (.ref f9))) (l9 : K.lookup f9 = some ⟨oc9, od9, .func (PySem.W.fnOf "sum_of" "sum_of" (defArgs s_sum_of) (defBody s_sum_of) (defScope s_sum_of) .none kV9 dc9 pm9 an9 cd9 ct9), sl9⟩) (c9 : PySem.W.codeIn K cd9 "sum_of" = true) (k9 : PySem.W.keepIn K (.ref f9) = true)
    (a10 : PySem.W.nsIn K mainGlobals "is_price" = some (some (.ref f10))) (l10 : K.lookup f10 = some ⟨oc10, od10, .func (PySem.W.fnOf "is_price" "is_price" (defArgs s_is_price) (defBody s_is_price) (defScope s_is_price) .none kV10 dc10 pm10 an10 cd10 ct10), sl10⟩) (c10 : PySem.W.codeIn K cd10 "is_price" = true) (k10 : PySem.W.keepIn K (.ref f10) = true)
    (a11 : PySem.W.nsIn K mainGlobals "is_letter" = some (some (.ref f11))) (l11 : K.lookup f11 = some ⟨oc11, od11, .func (PySem.W.fnOf "is_letter" "is_letter" (defArgs s_is_letter) (defBody s_is_letter) (defScope s_is_letter) .none kV11 dc11 pm11 an11 cd11 ct11), sl11⟩) (c11 : PySem.W.codeIn K cd11 "is_letter" = true) (k11 : PySem.W.keepIn K (.ref f11) = true)
    (a12 : PySem.W.nsIn K mainGlobals "is_sign" = some (some (.ref f12))) (l12 : K.lookup f12 = some ⟨oc12, od12, .func (PySem.W.fnOf "is_sign" "is_sign" (defArgs s_is_sign) (defBody s_is_sign) (defScope s_is_sign) .none kV12 dc12 pm12 an12 cd12 ct12), sl12⟩) (c12 : PySem.W.codeIn K cd12 "is_sign" = true) (k12 : PySem.W.keepIn K (.ref f12) = true)
    (a13 : PySem.W.nsIn K mainGlobals "are_signs" = some (some (.ref f13))) (l13 : K.lookup f13 = some ⟨oc13, od13, .func (PySem.W.fnOf "are_signs" "are_signs" (defArgs s_are_signs) (defBody s_are_signs) (defScope s_are_signs) .none kV13 dc13 pm13 an13 cd13 ct13), sl13⟩) (c13 : PySem.W.codeIn K cd13 "are_signs" = true) (k13 : PySem.W.keepIn K (.ref f13) = true)
    (a14 : PySem.W.nsIn K mainGlobals "are_unlike_texts" = some (some (.ref f14))) (l14 : K.lookup f14 = some ⟨oc14, od14, .func (PySem.W.fnOf "are_unlike_texts" "are_unlike_texts" (defArgs s_are_unlike_texts) (defBody s_are_unlike_texts) (defScope s_are_unlike_texts) .none kV14 dc14 pm14 an14 cd14 ct14), sl14⟩) (c14 : PySem.W.codeIn K cd14 "are_unlike_texts" = true) (k14 : PySem.W.keepIn K (.ref f14) = true)
    (a15 : PySem.W.nsIn K mainGlobals "look_at_tongue" = some (some (.ref f15))) (l15 : K.lookup f15 = some ⟨oc15, od15, .func (PySem.W.fnOf "look_at_tongue" "look_at_tongue" (defArgs s_look_at_tongue) (defBody s_look_at_tongue) (defScope s_look_at_tongue) .none kV15 dc15 pm15 an15 cd15 ct15), sl15⟩) (c15 : PySem.W.codeIn K cd15 "look_at_tongue" = true) (k15 : PySem.W.keepIn K (.ref f15) = true)
    (a16 : PySem.W.nsIn K mainGlobals "is_want" = some (some (.ref f16))) (l16 : K.lookup f16 = some ⟨oc16, od16, .func (PySem.W.fnOf "is_want" "is_want" (defArgs s_is_want) (defBody s_is_want) (defScope s_is_want) .none kV16 dc16 pm16 an16 cd16 ct16), sl16⟩) (c16 : PySem.W.codeIn K cd16 "is_want" = true) (k16 : PySem.W.keepIn K (.ref f16) = true)
    (a17 : PySem.W.nsIn K mainGlobals "look_at_wants" = some (some (.ref f17))) (l17 : K.lookup f17 = some ⟨oc17, od17, .func (PySem.W.fnOf "look_at_wants" "look_at_wants" (defArgs s_look_at_wants) (defBody s_look_at_wants) (defScope s_look_at_wants) .none kV17 dc17 pm17 an17 cd17 ct17), sl17⟩) (c17 : PySem.W.codeIn K cd17 "look_at_wants" = true) (k17 : PySem.W.keepIn K (.ref f17) = true)
    (a18 : PySem.W.nsIn K mainGlobals "comes" = some (some (.ref f18))) (l18 : K.lookup f18 = some ⟨oc18, od18, .func (PySem.W.fnOf "comes" "comes" (defArgs s_comes) (defBody s_comes) (defScope s_comes) .none kV18 dc18 pm18 an18 cd18 ct18), sl18⟩) (c18 : PySem.W.codeIn K cd18 "comes" = true) (k18 : PySem.W.keepIn K (.ref f18) = true)
    (a19 : PySem.W.nsIn K mainGlobals "may_come" = some (some (.ref f19))) (l19 : K.lookup f19 = some ⟨oc19, od19, .func (PySem.W.fnOf "may_come" "may_come" (defArgs s_may_come) (defBody s_may_come) (defScope s_may_come) .none kV19 dc19 pm19 an19 cd19 ct19), sl19⟩) (c19 : PySem.W.codeIn K cd19 "may_come" = true) (k19 : PySem.W.keepIn K (.ref f19) = true)
    (a20 : PySem.W.nsIn K mainGlobals "is_amount" = some (some (.ref f20))) (l20 : K.lookup f20 = some ⟨oc20, od20, .func (PySem.W.fnOf "is_amount" "is_amount" (defArgs s_is_amount) (defBody s_is_amount) (defScope s_is_amount) .none kV20 dc20 pm20 an20 cd20 ct20), sl20⟩) (c20 : PySem.W.codeIn K cd20 "is_amount" = true) (k20 : PySem.W.keepIn K (.ref f20) = true)
    (a21 : PySem.W.nsIn K mainGlobals "are_amounts" = some (some (.ref f21))) (l21 : K.lookup f21 = some ⟨oc21, od21, .func (PySem.W.fnOf "are_amounts" "are_amounts" (defArgs s_are_amounts) (defBody s_are_amounts) (defScope s_are_amounts) .none kV21 dc21 pm21 an21 cd21 ct21), sl21⟩) (c21 : PySem.W.codeIn K cd21 "are_amounts" = true) (k21 : PySem.W.keepIn K (.ref f21) = true)
    (a22 : PySem.W.nsIn K mainGlobals "is_part" = some (some (.ref f22))) (l22 : K.lookup f22 = some ⟨oc22, od22, .func (PySem.W.fnOf "is_part" "is_part" (defArgs s_is_part) (defBody s_is_part) (defScope s_is_part) .none kV22 dc22 pm22 an22 cd22 ct22), sl22⟩) (c22 : PySem.W.codeIn K cd22 "is_part" = true) (k22 : PySem.W.keepIn K (.ref f22) = true)
    (a23 : PySem.W.nsIn K mainGlobals "are_parts" = some (some (.ref f23))) (l23 : K.lookup f23 = some ⟨oc23, od23, .func (PySem.W.fnOf "are_parts" "are_parts" (defArgs s_are_parts) (defBody s_are_parts) (defScope s_are_parts) .none kV23 dc23 pm23 an23 cd23 ct23), sl23⟩) (c23 : PySem.W.codeIn K cd23 "are_parts" = true) (k23 : PySem.W.keepIn K (.ref f23) = true)
    (a24 : PySem.W.nsIn K mainGlobals "are_shares" = some (some (.ref f24))) (l24 : K.lookup f24 = some ⟨oc24, od24, .func (PySem.W.fnOf "are_shares" "are_shares" (defArgs s_are_shares) (defBody s_are_shares) (defScope s_are_shares) .none kV24 dc24 pm24 an24 cd24 ct24), sl24⟩) (c24 : PySem.W.codeIn K cd24 "are_shares" = true) (k24 : PySem.W.keepIn K (.ref f24) = true)
    (a25 : PySem.W.nsIn K mainGlobals "parts_by_signs" = some (some (.ref f25))) (l25 : K.lookup f25 = some ⟨oc25, od25, .func (PySem.W.fnOf "parts_by_signs" "parts_by_signs" (defArgs s_parts_by_signs) (defBody s_parts_by_signs) (defScope s_parts_by_signs) .none kV25 dc25 pm25 an25 cd25 ct25), sl25⟩) (c25 : PySem.W.codeIn K cd25 "parts_by_signs" = true) (k25 : PySem.W.keepIn K (.ref f25) = true)
    (a26 : PySem.W.nsIn K mainGlobals "signs_behind" = some (some (.ref f26))) (l26 : K.lookup f26 = some ⟨oc26, od26, .func (PySem.W.fnOf "signs_behind" "signs_behind" (defArgs s_signs_behind) (defBody s_signs_behind) (defScope s_signs_behind) .none kV26 dc26 pm26 an26 cd26 ct26), sl26⟩) (c26 : PySem.W.codeIn K cd26 "signs_behind" = true) (k26 : PySem.W.keepIn K (.ref f26) = true)
    (a27 : PySem.W.nsIn K mainGlobals "holds_for" = some (some (.ref f27))) (l27 : K.lookup f27 = some ⟨oc27, od27, .func (PySem.W.fnOf "holds_for" "holds_for" (defArgs s_holds_for) (defBody s_holds_for) (defScope s_holds_for) .none kV27 dc27 pm27 an27 cd27 ct27), sl27⟩) (c27 : PySem.W.codeIn K cd27 "holds_for" = true) (k27 : PySem.W.keepIn K (.ref f27) = true)
    (a28 : PySem.W.nsIn K mainGlobals "lets_shares" = some (some (.ref f28))) (l28 : K.lookup f28 = some ⟨oc28, od28, .func (PySem.W.fnOf "lets_shares" "lets_shares" (defArgs s_lets_shares) (defBody s_lets_shares) (defScope s_lets_shares) .none kV28 dc28 pm28 an28 cd28 ct28), sl28⟩) (c28 : PySem.W.codeIn K cd28 "lets_shares" = true) (k28 : PySem.W.keepIn K (.ref f28) = true)
    (a29 : PySem.W.nsIn K mainGlobals "_law_cell_at" = some (some (.ref f29))) (l29 : K.lookup f29 = some ⟨oc29, od29, .func (PySem.W.fnOf "_law_cell_at" "_law_cell_at" (defArgs s__law_cell_at) (defBody s__law_cell_at) (defScope s__law_cell_at) .none kV29 dc29 pm29 an29 cd29 ct29), sl29⟩) (c29 : PySem.W.codeIn K cd29 "_law_cell_at" = true) (k29 : PySem.W.keepIn K (.ref f29) = true)
    (a30 : PySem.W.nsIn K mainGlobals "_law_source" = some (some (.ref f30))) (l30 : K.lookup f30 = some ⟨oc30, od30, .func (PySem.W.fnOf "_law_source" "_law_source" (defArgs s__law_source) (defBody s__law_source) (defScope s__law_source) .none kV30 dc30 pm30 an30 cd30 ct30), sl30⟩) (c30 : PySem.W.codeIn K cd30 "_law_source" = true) (k30 : PySem.W.keepIn K (.ref f30) = true)
    (a31 : PySem.W.nsIn K mainGlobals "_law_draw" = some (some (.ref f31))) (l31 : K.lookup f31 = some ⟨oc31, od31, .func (PySem.W.fnOf "_law_draw" "_law_draw" (defArgs s__law_draw) (defBody s__law_draw) (defScope s__law_draw) .none kV31 dc31 pm31 an31 cd31 ct31), sl31⟩) (c31 : PySem.W.codeIn K cd31 "_law_draw" = true) (k31 : PySem.W.keepIn K (.ref f31) = true)
    (a32 : PySem.W.nsIn K mainGlobals "_law_case" = some (some (.ref f32))) (l32 : K.lookup f32 = some ⟨oc32, od32, .func (PySem.W.fnOf "_law_case" "_law_case" (defArgs s__law_case) (defBody s__law_case) (defScope s__law_case) .none kV32 dc32 pm32 an32 cd32 ct32), sl32⟩) (c32 : PySem.W.codeIn K cd32 "_law_case" = true) (k32 : PySem.W.keepIn K (.ref f32) = true)
    (a33 : PySem.W.nsIn K mainGlobals "_law_tongue" = some (some (.ref f33))) (l33 : K.lookup f33 = some ⟨oc33, od33, .func (PySem.W.fnOf "_law_tongue" "_law_tongue" (defArgs s__law_tongue) (defBody s__law_tongue) (defScope s__law_tongue) .none kV33 dc33 pm33 an33 cd33 ct33), sl33⟩) (c33 : PySem.W.codeIn K cd33 "_law_tongue" = true) (k33 : PySem.W.keepIn K (.ref f33) = true)
    (a34 : PySem.W.nsIn K mainGlobals "_law_parts" = some (some (.ref f34))) (l34 : K.lookup f34 = some ⟨oc34, od34, .func (PySem.W.fnOf "_law_parts" "_law_parts" (defArgs s__law_parts) (defBody s__law_parts) (defScope s__law_parts) .none kV34 dc34 pm34 an34 cd34 ct34), sl34⟩) (c34 : PySem.W.codeIn K cd34 "_law_parts" = true) (k34 : PySem.W.keepIn K (.ref f34) = true)
    (a35 : PySem.W.nsIn K mainGlobals "law" = some (some (.ref f35))) (l35 : K.lookup f35 = some ⟨oc35, od35, .func (PySem.W.fnOf "law" "law" (defArgs s_law) (defBody s_law) (defScope s_law) .none kV35 dc35 pm35 an35 cd35 ct35), sl35⟩) (c35 : PySem.W.codeIn K cd35 "law" = true) (k35 : PySem.W.keepIn K (.ref f35) = true)
    (a36 : PySem.W.nsIn K mainGlobals "LETTERS_numbers" = some (some (.str "abcdefghijklmnopqrstuvwxyz" t36)))
    (a37 : PySem.W.nsIn K mainGlobals "LONGEST_numbers" = some (some (.int 8 t37)))
    (a38 : PySem.W.nsIn K mainGlobals "LETTERS_tongues" = some (some (.str "abcdefghijklmnopqrstuvwxyz" t38)))
    (a39 : PySem.W.nsIn K mainGlobals "FEWEST_SIGNS" = some (some (.int 2 t39)))
    (a40 : PySem.W.nsIn K mainGlobals "MOST_SIGNS" = some (some (.int 6 t40)))
    (a41 : PySem.W.nsIn K mainGlobals "LONGEST_tongues" = some (some (.int 8 t41)))
    (a42 : PySem.W.nsIn K mainGlobals "MOST_THINGS" = some (some (.int 20 t42)))
    (a43 : PySem.W.nsIn K mainGlobals "GREATEST_COUNT" = some (some (.int 1000000000 t43)))
    (a44 : PySem.W.nsIn K mainGlobals "MOST_LOOKED" = some (some (.int 5000 t44)))
    (a45 : PySem.W.nsIn K mainGlobals "NOUGHT" = some (some (.ref T45))) (d45 : K.lookup T45 = some ⟨.type "tuple", oD45, .seq #[.int 0 u45_0, .int 1 u45_1] n45, sD45⟩)
    (a46 : PySem.W.nsIn K mainGlobals "ONE" = some (some (.ref T46))) (d46 : K.lookup T46 = some ⟨.type "tuple", oD46, .seq #[.int 1 u46_0, .int 1 u46_1] n46, sD46⟩)
    (a47 : PySem.W.nsIn K mainGlobals "abs" = some none)
    (a48 : PySem.W.nsIn K mainGlobals "all" = some none)
    (a49 : PySem.W.nsIn K mainGlobals "bool" = some none)
    (a50 : PySem.W.nsIn K mainGlobals "dict" = some none)
    (a51 : PySem.W.nsIn K mainGlobals "enumerate" = some none)
    (a52 : PySem.W.nsIn K mainGlobals "int" = some none)
    (a53 : PySem.W.nsIn K mainGlobals "isinstance" = some none)
    (a54 : PySem.W.nsIn K mainGlobals "len" = some none)
    (a55 : PySem.W.nsIn K mainGlobals "list" = some none)
    (a56 : PySem.W.nsIn K mainGlobals "max" = some none)
    (a57 : PySem.W.nsIn K mainGlobals "range" = some none)
    (a58 : PySem.W.nsIn K mainGlobals "set" = some none)
    (a59 : PySem.W.nsIn K mainGlobals "str" = some none)
    (a60 : PySem.W.nsIn K mainGlobals "tuple" = some none)
    (a61 : PySem.W.nsIn K mainGlobals "zip" = some none)
    : Txt K mg :=
  ⟨⟨C_DearError, C_NoTongue, C_NoWants⟩,
   PySem.W.mg_of X G g_DearError,
   PySem.W.mg_of X G g_NoTongue,
   PySem.W.mg_of X G g_NoWants,
   ⟨f1, _, PySem.W.mg_of X G a1, fun_mk (st := s_is_whole) l1 c1 k1, (fun_mk (st := s_is_whole) l1 c1 k1).binds (ps := ["thing"]) fun _ _ _ _ _ _ us hl => match us, hl with | [_], _ => rfl⟩,
   ⟨f2, _, PySem.W.mg_of X G a2, fun_mk (st := s_is_name) l2 c2 k2, (fun_mk (st := s_is_name) l2 c2 k2).binds (ps := ["thing"]) fun _ _ _ _ _ _ us hl => match us, hl with | [_], _ => rfl⟩,
   ⟨f3, _, PySem.W.mg_of X G a3, fun_mk (st := s_divisor) l3 c3 k3, (fun_mk (st := s_divisor) l3 c3 k3).binds (ps := ["one", "other"]) fun _ _ _ _ _ _ us hl => match us, hl with | [_, _], _ => rfl⟩,
   ⟨f4, _, PySem.W.mg_of X G a4, fun_mk (st := s_is_fraction) l4 c4 k4, (fun_mk (st := s_is_fraction) l4 c4 k4).binds (ps := ["thing"]) fun _ _ _ _ _ _ us hl => match us, hl with | [_], _ => rfl⟩,
   ⟨f5, _, PySem.W.mg_of X G a5, fun_mk (st := s_lowest) l5 c5 k5, (fun_mk (st := s_lowest) l5 c5 k5).binds (ps := ["top", "bottom"]) fun _ _ _ _ _ _ us hl => match us, hl with | [_, _], _ => rfl⟩,
   ⟨f6, _, PySem.W.mg_of X G a6, fun_mk (st := s_plus) l6 c6 k6, (fun_mk (st := s_plus) l6 c6 k6).binds (ps := ["one", "other"]) fun _ _ _ _ _ _ us hl => match us, hl with | [_, _], _ => rfl⟩,
   ⟨f7, _, PySem.W.mg_of X G a7, fun_mk (st := s_times) l7 c7 k7, (fun_mk (st := s_times) l7 c7 k7).binds (ps := ["one", "other"]) fun _ _ _ _ _ _ us hl => match us, hl with | [_, _], _ => rfl⟩,
   ⟨f8, _, PySem.W.mg_of X G a8, fun_mk (st := s_under) l8 c8 k8, (fun_mk (st := s_under) l8 c8 k8).binds (ps := ["one", "other"]) fun _ _ _ _ _ _ us hl => match us, hl with | [_, _], _ => rfl⟩,
   ⟨f9, _, PySem.W.mg_of X G a9, fun_mk (st := s_sum_of) l9 c9 k9, (fun_mk (st := s_sum_of) l9 c9 k9).binds (ps := ["some"]) fun _ _ _ _ _ _ us hl => match us, hl with | [_], _ => rfl⟩,
   ⟨f10, _, PySem.W.mg_of X G a10, fun_mk (st := s_is_price) l10 c10 k10, (fun_mk (st := s_is_price) l10 c10 k10).binds (ps := ["thing"]) fun _ _ _ _ _ _ us hl => match us, hl with | [_], _ => rfl⟩,
   ⟨f11, _, PySem.W.mg_of X G a11, fun_mk (st := s_is_letter) l11 c11 k11, (fun_mk (st := s_is_letter) l11 c11 k11).binds (ps := ["thing"]) fun _ _ _ _ _ _ us hl => match us, hl with | [_], _ => rfl⟩,
   ⟨f12, _, PySem.W.mg_of X G a12, fun_mk (st := s_is_sign) l12 c12 k12, (fun_mk (st := s_is_sign) l12 c12 k12).binds (ps := ["thing"]) fun _ _ _ _ _ _ us hl => match us, hl with | [_], _ => rfl⟩,
   ⟨f13, _, PySem.W.mg_of X G a13, fun_mk (st := s_are_signs) l13 c13 k13, (fun_mk (st := s_are_signs) l13 c13 k13).binds (ps := ["thing"]) fun _ _ _ _ _ _ us hl => match us, hl with | [_], _ => rfl⟩,
   ⟨f14, _, PySem.W.mg_of X G a14, fun_mk (st := s_are_unlike_texts) l14 c14 k14, (fun_mk (st := s_are_unlike_texts) l14 c14 k14).binds (ps := ["thing", "size", "letters"]) fun _ _ _ _ _ _ us hl => match us, hl with | [_, _, _], _ => rfl⟩,
   ⟨f15, _, PySem.W.mg_of X G a15, fun_mk (st := s_look_at_tongue) l15 c15 k15, (fun_mk (st := s_look_at_tongue) l15 c15 k15).binds (ps := ["thing"]) fun _ _ _ _ _ _ us hl => match us, hl with | [_], _ => rfl⟩,
   ⟨f16, _, PySem.W.mg_of X G a16, fun_mk (st := s_is_want) l16 c16 k16, (fun_mk (st := s_is_want) l16 c16 k16).binds (ps := ["thing"]) fun _ _ _ _ _ _ us hl => match us, hl with | [_], _ => rfl⟩,
   ⟨f17, _, PySem.W.mg_of X G a17, fun_mk (st := s_look_at_wants) l17 c17 k17, (fun_mk (st := s_look_at_wants) l17 c17 k17).binds (ps := ["thing"]) fun _ _ _ _ _ _ us hl => match us, hl with | [_], _ => rfl⟩,
   ⟨f18, _, PySem.W.mg_of X G a18, fun_mk (st := s_comes) l18 c18 k18, (fun_mk (st := s_comes) l18 c18 k18).binds (ps := ["tongue", "ahead", "sign"]) fun _ _ _ _ _ _ us hl => match us, hl with | [_, _, _], _ => rfl⟩,
   ⟨f19, _, PySem.W.mg_of X G a19, fun_mk (st := s_may_come) l19 c19 k19, (fun_mk (st := s_may_come) l19 c19 k19).binds (ps := ["tongue", "ahead", "sign"]) fun _ _ _ _ _ _ us hl => match us, hl with | [_, _, _], _ => rfl⟩,
   ⟨f20, _, PySem.W.mg_of X G a20, fun_mk (st := s_is_amount) l20 c20 k20, (fun_mk (st := s_is_amount) l20 c20 k20).binds (ps := ["thing"]) fun _ _ _ _ _ _ us hl => match us, hl with | [_], _ => rfl⟩,
   ⟨f21, _, PySem.W.mg_of X G a21, fun_mk (st := s_are_amounts) l21 c21 k21, (fun_mk (st := s_are_amounts) l21 c21 k21).binds (ps := ["thing", "many"]) fun _ _ _ _ _ _ us hl => match us, hl with | [_, _], _ => rfl⟩,
   ⟨f22, _, PySem.W.mg_of X G a22, fun_mk (st := s_is_part) l22 c22 k22, (fun_mk (st := s_is_part) l22 c22 k22).binds (ps := ["signs", "thing"]) fun _ _ _ _ _ _ us hl => match us, hl with | [_, _], _ => rfl⟩,
   ⟨f23, _, PySem.W.mg_of X G a23, fun_mk (st := s_are_parts) l23 c23 k23, (fun_mk (st := s_are_parts) l23 c23 k23).binds (ps := ["signs", "thing"]) fun _ _ _ _ _ _ us hl => match us, hl with | [_, _], _ => rfl⟩,
   ⟨f24, _, PySem.W.mg_of X G a24, fun_mk (st := s_are_shares) l24 c24 k24, (fun_mk (st := s_are_shares) l24 c24 k24).binds (ps := ["tongue", "many", "thing"]) fun _ _ _ _ _ _ us hl => match us, hl with | [_, _, _], _ => rfl⟩,
   ⟨f25, _, PySem.W.mg_of X G a25, fun_mk (st := s_parts_by_signs) l25 c25 k25, (fun_mk (st := s_parts_by_signs) l25 c25 k25).binds (ps := ["parts"]) fun _ _ _ _ _ _ us hl => match us, hl with | [_], _ => rfl⟩,
   ⟨f26, _, PySem.W.mg_of X G a26, fun_mk (st := s_signs_behind) l26 c26 k26, (fun_mk (st := s_signs_behind) l26 c26 k26).binds (ps := ["tongue"]) fun _ _ _ _ _ _ us hl => match us, hl with | [_], _ => rfl⟩,
   ⟨f27, _, PySem.W.mg_of X G a27, fun_mk (st := s_holds_for) l27 c27 k27, (fun_mk (st := s_holds_for) l27 c27 k27).binds (ps := ["longest", "behind", "count", "value", "whole", "by_signs"]) fun _ _ _ _ _ _ us hl => match us, hl with | [_, _, _, _, _, _], _ => rfl⟩,
   ⟨f28, _, PySem.W.mg_of X G a28, fun_mk (st := s_lets_shares) l28 c28 k28, (fun_mk (st := s_lets_shares) l28 c28 k28).binds (ps := ["tongue", "wants", "thing"]) fun _ _ _ _ _ _ us hl => match us, hl with | [_, _, _], _ => rfl⟩,
   ⟨f29, _, PySem.W.mg_of X G a29, fun_mk (st := s__law_cell_at) l29 c29 k29, (fun_mk (st := s__law_cell_at) l29 c29 k29).binds (ps := ["_law_script", "_law_k"]) fun _ _ _ _ _ _ us hl => match us, hl with | [_, _], _ => rfl⟩,
   ⟨f30, _, PySem.W.mg_of X G a30, fun_mk (st := s__law_source) l30 c30 k30, (fun_mk (st := s__law_source) l30 c30 k30).binds (ps := ["_law_cell", "_law_k"]) fun _ _ _ _ _ _ us hl => match us, hl with | [_, _], _ => rfl⟩,
   ⟨f31, _, PySem.W.mg_of X G a31, fun_mk (st := s__law_draw) l31 c31 k31, (fun_mk (st := s__law_draw) l31 c31 k31).binds (ps := ["_law_source_here", "_law_many"]) fun _ _ _ _ _ _ us hl => match us, hl with | [_, _], _ => rfl⟩,
   ⟨f32, _, PySem.W.mg_of X G a32, fun_mk (st := s__law_case) l32 c32 k32, (fun_mk (st := s__law_case) l32 c32 k32).binds (ps := ["_law_source_here"]) fun _ _ _ _ _ _ us hl => match us, hl with | [_], _ => rfl⟩,
   ⟨f33, _, PySem.W.mg_of X G a33, fun_mk (st := s__law_tongue) l33 c33 k33, (fun_mk (st := s__law_tongue) l33 c33 k33).binds (ps := ["_law_source_here", "_law_many", "_law_longest"]) fun _ _ _ _ _ _ us hl => match us, hl with | [_, _, _], _ => rfl⟩,
   ⟨f34, _, PySem.W.mg_of X G a34, fun_mk (st := s__law_parts) l34 c34 k34, (fun_mk (st := s__law_parts) l34 c34 k34).binds (ps := ["_law_many"]) fun _ _ _ _ _ _ us hl => match us, hl with | [_], _ => rfl⟩,
   ⟨f35, _, PySem.W.mg_of X G a35, fun_mk (st := s_law) l35 c35 k35, (fun_mk (st := s_law) l35 c35 k35).binds (ps := ["_law_script"]) fun _ _ _ _ _ _ us hl => match us, hl with | [_], _ => rfl⟩,
   ⟨_, PySem.W.mg_of X G a36⟩,
   ⟨_, PySem.W.mg_of X G a37⟩,
   ⟨_, PySem.W.mg_of X G a38⟩,
   ⟨_, PySem.W.mg_of X G a39⟩,
   ⟨_, PySem.W.mg_of X G a40⟩,
   ⟨_, PySem.W.mg_of X G a41⟩,
   ⟨_, PySem.W.mg_of X G a42⟩,
   ⟨_, PySem.W.mg_of X G a43⟩,
   ⟨_, PySem.W.mg_of X G a44⟩,
   ⟨_, PySem.W.mg_of X G a45, _, _, _, d45, rfl, rfl, by show 2 ≤ sizeLine; decide, .cons ⟨_, rfl⟩ (.cons ⟨_, rfl⟩ (.nil))⟩,
   ⟨_, PySem.W.mg_of X G a46, _, _, _, d46, rfl, rfl, by show 2 ≤ sizeLine; decide, .cons ⟨_, rfl⟩ (.cons ⟨_, rfl⟩ (.nil))⟩,
   PySem.W.mg_none_of X G a47,
   PySem.W.mg_none_of X G a48,
   PySem.W.mg_none_of X G a49,
   PySem.W.mg_none_of X G a50,
   PySem.W.mg_none_of X G a51,
   PySem.W.mg_none_of X G a52,
   PySem.W.mg_none_of X G a53,
   PySem.W.mg_none_of X G a54,
   PySem.W.mg_none_of X G a55,
   PySem.W.mg_none_of X G a56,
   PySem.W.mg_none_of X G a57,
   PySem.W.mg_none_of X G a58,
   PySem.W.mg_none_of X G a59,
   PySem.W.mg_none_of X G a60,
   PySem.W.mg_none_of X G a61⟩
end Dear


namespace Du
open PySem PySem.Spec PyProof.Rows L2 Dear
noncomputable def B_is_whole : Env → Out := (sRet [] (eAnd (eIsi "int" (eVar 0)) (eNot (eIsi "bool" (eVar 0)))))
noncomputable def F_is_whole : List D → Res D := runD (["thing"] : List Str).length n_is_whole.length B_is_whole
theorem ok_is_whole {P : Program} {w : World} {K : PySem.W.Frag} {mg : Str → Option Value} {base : Heap} (T : Txt K mg) : OkF P w K mg base CX0 (0 + 1) "is_whole" ["thing"] (sp0 K F_is_whole) :=
  ok0 (g := B_is_whole) T.f_is_whole c_is_whole fun f cdv A outer s H E hr => 
(fss_one (fs_ret (L := []) (fe_and (fe_isi (t := "int") tn_int (fe_var 0) (pe_bltn (v := .ty "int") (by rfl) T.b_int (by decide +kernel) rfl) T.b_isinstance) (fe_one (fe_not (fe_isi (t := "bool") tn_bool (fe_var 0) (pe_bltn (v := .ty "bool") (by rfl) T.b_bool (by decide +kernel) rfl) T.b_isinstance))))))

noncomputable def B_is_name : Env → Out := (sSeq (sIf [] (bOr (bNot (bT (eIsi "str" (eVar 0)))) (bNot (bT (eChain dLe dLe (eC (.int 1)) (eCall dLen (aCons (eVar 0) aNil)) (eC (.int 8))))))
(sRet [] (eC (.bl false)))
sPass)
(sRet [] (eCall dAll (aCons (eComp [1] (iAny (eVar 0)) (tgN 1) bYes (eOp (dIn false) (eVar 1) (eC (.str "abcdefghijklmnopqrstuvwxyz")))) aNil))))
theorem B_is_name_u (ρ : Env) : B_is_name ρ = (sSeq (sIf [] (bOr (bNot (bT (eIsi "str" (eVar 0)))) (bNot (bT (eChain dLe dLe (eC (.int 1)) (eCall dLen (aCons (eVar 0) aNil)) (eC (.int 8))))))
(sRet [] (eC (.bl false)))
sPass)
(sRet [] (eCall dAll (aCons (eComp [1] (iAny (eVar 0)) (tgN 1) bYes (eOp (dIn false) (eVar 1) (eC (.str "abcdefghijklmnopqrstuvwxyz")))) aNil)))) ρ := rfl
noncomputable def F_is_name : List D → Res D := runD (["thing"] : List Str).length n_is_name.length B_is_name
theorem ok_is_name {P : Program} {w : World} {K : PySem.W.Frag} {mg : Str → Option Value} {base : Heap} (T : Txt K mg) : OkF P w K mg base CX0 (0 + 1) "is_name" ["thing"] (sp0 K F_is_name) :=
  ok0 (g := B_is_name) T.f_is_name c_is_name fun f cdv A outer s H E hr => have hu65 := u65 hr; 
(fss_cons (fs_if (L := []) (ft_w (fw_or (ft_not (ft_tru (fe_isi (t := "str") tn_str (fe_var 0) (pe_bltn (v := .ty "str") (by rfl) T.b_str (by decide +kernel) rfl) T.b_isinstance))) (fw_or1 (ft_not (ft_chain op_le opd_le op_le opd_le gb_cmp fe_int (fe_callB (cr_len (K := K)) cd_len T.b_len (fa_cons (fe_var 0) fa_nil)) (fe_gi T.g_LONGEST_numbers))))))
(fss_one (fs_ret (L := []) fe_bl))
fss_nil)
(fss_one (fs_ret (L := []) (fe_callB (cr_all_k K rfl) cd_all T.b_all (fa_cons (fe_comp [("sign", 1)] c_is_name.nd (fi_any (fe_var 0)) (fun _ _ _ _ _ => (fg_name 1 c_is_name.nd)) (fun _ _ _ _ _ => fts_nil) (fun _ _ _ _ _ => (fe_cmp (op_inA (K := K) hu65) opd_inF (fe_var 1) (fe_gs T.g_LETTERS_numbers))) (blkOk_by (own := [("sign", 1)]) (N := n_is_name) (sc := defScope s_is_name) (by decide +kernel))) fa_nil)))))

noncomputable def B_divisor_1 : Env → Out := (sPar 0 1 [] (aCons (eVar 1) (aCons (eOp dMod (eVar 0) (eVar 1)) aNil)))
theorem B_divisor_1_u (ρ : Env) : B_divisor_1 ρ = (sPar 0 1 [] (aCons (eVar 1) (aCons (eOp dMod (eVar 0) (eVar 1)) aNil))) ρ := rfl
noncomputable def B_divisor : Env → Out := (sSeq (sWhile [] (bT (eOp dGt (eVar 1) (eC (.int 0))))
B_divisor_1)
(sRet [] (eVar 0)))
noncomputable def F_divisor : List D → Res D := runD (["one", "other"] : List Str).length n_divisor.length B_divisor
theorem ok_divisor {P : Program} {w : World} {K : PySem.W.Frag} {mg : Str → Option Value} {base : Heap} (T : Txt K mg) : OkF P w K mg base CX0 (0 + 1) "divisor" ["one", "other"] (sp0 K F_divisor) :=
  ok0 (g := B_divisor) T.f_divisor c_divisor fun f cdv A outer s H E hr => 
(fss_cons (fs_while (L := []) PassesOwn.never (ft_cmp op_gt opd_gt gb_cmp (fe_var 1) fe_int)
(fss_one (fs_par (L := []) 0 1 c_divisor.nd (fa_cons (fe_var 1) (fa_cons (fe_op op_mod opd_mod (fe_var 0) (fe_var 1)) fa_nil)))))
(fss_one (fs_ret (L := []) (fe_var 0))))

noncomputable def B_is_fraction : Env → Out := (sSeq (sIf [] (bOr (bNot (bT (eIsi "tuple" (eVar 0)))) (bT (eOp dNe (eCall dLen (aCons (eVar 0) aNil)) (eC (.int 2)))))
(sRet [] (eC (.bl false)))
sPass)
(sSeq (sAsg [] (eVar 0) (tgT [(tgN 1), (tgN 2)]))
(sSeq (sIf [] (bOr (bNot (bT (eCall F_is_whole (aCons (eVar 1) aNil)))) (bOr (bNot (bT (eCall F_is_whole (aCons (eVar 2) aNil)))) (bT (eOp dLt (eVar 2) (eC (.int 1))))))
(sRet [] (eC (.bl false)))
sPass)
(sRet [] (eOp dEq (eCall F_divisor (aCons (eVar 2) (aCons (eCall dAbs (aCons (eVar 1) aNil)) aNil))) (eC (.int 1)))))))
noncomputable def F_is_fraction : List D → Res D := runD (["thing"] : List Str).length n_is_fraction.length B_is_fraction
theorem ok_is_fraction {P : Program} {w : World} {K : PySem.W.Frag} {mg : Str → Option Value} {base : Heap} (T : Txt K mg) : OkF P w K mg base CX0 (1 + 1) "is_fraction" ["thing"] (sp0 K F_is_fraction) :=
  ok0 (g := B_is_fraction) T.f_is_fraction c_is_fraction fun f cdv A outer s H E hr => 
(fss_cons (fs_if (L := []) (ft_w (fw_or (ft_not (ft_tru (fe_isi (t := "tuple") tn_tuple (fe_var 0) (pe_bltn (v := .ty "tuple") (by rfl) T.b_tuple (by decide +kernel) rfl) T.b_isinstance))) (fw_or1 (ft_cmp (op_neA (K := K) hr.units) opd_ne gb_ne (fe_callB (cr_len (K := K)) cd_len T.b_len (fa_cons (fe_var 0) fa_nil)) fe_int))))
(fss_one (fs_ret (L := []) fe_bl))
fss_nil)
(fss_cons (fs_asg (L := []) (fe_var 0) (fg_tup (fgs_cons (fg_name 1 c_is_fraction.nd) (fgs_cons (fg_name 2 c_is_fraction.nd) fgs_nil))))
(fss_cons (fs_if (L := []) (ft_w (fw_or (ft_not (ft_tru (fe_call (ok_is_whole T) hr (fa_cons (fe_var 1) fa_nil)))) (fw_or (ft_not (ft_tru (fe_call (ok_is_whole T) hr (fa_cons (fe_var 2) fa_nil)))) (fw_or1 (ft_cmp op_lt opd_lt gb_cmp (fe_var 2) fe_int)))))
(fss_one (fs_ret (L := []) fe_bl))
fss_nil)
(fss_one (fs_ret (L := []) (fe_cmp (op_eqA (K := K) hr.units) opd_eq (fe_call (ok_divisor T) hr (fa_cons (fe_var 2) (fa_cons (fe_callB call_abs cd_abs T.b_abs (fa_cons (fe_var 1) fa_nil)) fa_nil))) fe_int))))))

noncomputable def B_lowest : Env → Out := (sSeq (sAsg [] (eCall F_divisor (aCons (eVar 1) (aCons (eCall dAbs (aCons (eVar 0) aNil)) aNil))) (tgN 2))
(sRet [] (eTup (aCons (eOp dDiv (eVar 0) (eVar 2)) (aCons (eOp dDiv (eVar 1) (eVar 2)) aNil)))))
theorem B_lowest_u (ρ : Env) : B_lowest ρ = (sSeq (sAsg [] (eCall F_divisor (aCons (eVar 1) (aCons (eCall dAbs (aCons (eVar 0) aNil)) aNil))) (tgN 2))
(sRet [] (eTup (aCons (eOp dDiv (eVar 0) (eVar 2)) (aCons (eOp dDiv (eVar 1) (eVar 2)) aNil))))) ρ := rfl
noncomputable def F_lowest : List D → Res D := runD (["top", "bottom"] : List Str).length n_lowest.length B_lowest
theorem ok_lowest {P : Program} {w : World} {K : PySem.W.Frag} {mg : Str → Option Value} {base : Heap} (T : Txt K mg) : OkF P w K mg base CX0 (1 + 1) "lowest" ["top", "bottom"] (sp0 K F_lowest) :=
  ok0 (g := B_lowest) T.f_lowest c_lowest fun f cdv A outer s H E hr => 
(fss_cons (fs_asg (L := []) (fe_call (ok_divisor T) hr (fa_cons (fe_var 1) (fa_cons (fe_callB call_abs cd_abs T.b_abs (fa_cons (fe_var 0) fa_nil)) fa_nil))) (fg_name 2 c_lowest.nd))
(fss_one (fs_ret (L := []) (fe_tup (fa_cons (fe_op op_fdivW opd_div (fe_var 0) (fe_var 2)) (fa_cons (fe_op op_fdivW opd_div (fe_var 1) (fe_var 2)) fa_nil))))))

noncomputable def B_plus : Env → Out := (sRet [] (eCall F_lowest (aCons (eOp dAdd (eOp dMul (eOp dIx (eVar 0) (eC (.int 0))) (eOp dIx (eVar 1) (eC (.int 1)))) (eOp dMul (eOp dIx (eVar 1) (eC (.int 0))) (eOp dIx (eVar 0) (eC (.int 1))))) (aCons (eOp dMul (eOp dIx (eVar 0) (eC (.int 1))) (eOp dIx (eVar 1) (eC (.int 1)))) aNil))))
theorem B_plus_u (ρ : Env) : B_plus ρ = (sRet [] (eCall F_lowest (aCons (eOp dAdd (eOp dMul (eOp dIx (eVar 0) (eC (.int 0))) (eOp dIx (eVar 1) (eC (.int 1)))) (eOp dMul (eOp dIx (eVar 1) (eC (.int 0))) (eOp dIx (eVar 0) (eC (.int 1))))) (aCons (eOp dMul (eOp dIx (eVar 0) (eC (.int 1))) (eOp dIx (eVar 1) (eC (.int 1)))) aNil)))) ρ := rfl
noncomputable def F_plus : List D → Res D := runD (["one", "other"] : List Str).length n_plus.length B_plus
theorem ok_plus {P : Program} {w : World} {K : PySem.W.Frag} {mg : Str → Option Value} {base : Heap} (T : Txt K mg) : OkF P w K mg base CX0 (2 + 1) "plus" ["one", "other"] (sp0 K F_plus) :=
  ok0 (g := B_plus) T.f_plus c_plus fun f cdv A outer s H E hr => 
(fss_one (fs_ret (L := []) (fe_call (ok_lowest T) hr (fa_cons (fe_op (op_addA K) opd_add (fe_op op_mulA opd_mul (fe_ix (ix_A (K := K) (u1 hr.units)) opd_ix (fe_var 0) fe_int) (fe_ix (ix_A (K := K) (u1 hr.units)) opd_ix (fe_var 1) fe_int)) (fe_op op_mulA opd_mul (fe_ix (ix_A (K := K) (u1 hr.units)) opd_ix (fe_var 1) fe_int) (fe_ix (ix_A (K := K) (u1 hr.units)) opd_ix (fe_var 0) fe_int))) (fa_cons (fe_op op_mulA opd_mul (fe_ix (ix_A (K := K) (u1 hr.units)) opd_ix (fe_var 0) fe_int) (fe_ix (ix_A (K := K) (u1 hr.units)) opd_ix (fe_var 1) fe_int)) fa_nil)))))

noncomputable def B_times : Env → Out := (sRet [] (eCall F_lowest (aCons (eOp dMul (eOp dIx (eVar 0) (eC (.int 0))) (eOp dIx (eVar 1) (eC (.int 0)))) (aCons (eOp dMul (eOp dIx (eVar 0) (eC (.int 1))) (eOp dIx (eVar 1) (eC (.int 1)))) aNil))))
theorem B_times_u (ρ : Env) : B_times ρ = (sRet [] (eCall F_lowest (aCons (eOp dMul (eOp dIx (eVar 0) (eC (.int 0))) (eOp dIx (eVar 1) (eC (.int 0)))) (aCons (eOp dMul (eOp dIx (eVar 0) (eC (.int 1))) (eOp dIx (eVar 1) (eC (.int 1)))) aNil)))) ρ := rfl
noncomputable def F_times : List D → Res D := runD (["one", "other"] : List Str).length n_times.length B_times
theorem ok_times {P : Program} {w : World} {K : PySem.W.Frag} {mg : Str → Option Value} {base : Heap} (T : Txt K mg) : OkF P w K mg base CX0 (2 + 1) "times" ["one", "other"] (sp0 K F_times) :=
  ok0 (g := B_times) T.f_times c_times fun f cdv A outer s H E hr => 
(fss_one (fs_ret (L := []) (fe_call (ok_lowest T) hr (fa_cons (fe_op op_mulA opd_mul (fe_ix (ix_A (K := K) (u1 hr.units)) opd_ix (fe_var 0) fe_int) (fe_ix (ix_A (K := K) (u1 hr.units)) opd_ix (fe_var 1) fe_int)) (fa_cons (fe_op op_mulA opd_mul (fe_ix (ix_A (K := K) (u1 hr.units)) opd_ix (fe_var 0) fe_int) (fe_ix (ix_A (K := K) (u1 hr.units)) opd_ix (fe_var 1) fe_int)) fa_nil)))))

noncomputable def B_under : Env → Out := (sRet [] (eOp dLt (eOp dMul (eOp dIx (eVar 0) (eC (.int 0))) (eOp dIx (eVar 1) (eC (.int 1)))) (eOp dMul (eOp dIx (eVar 1) (eC (.int 0))) (eOp dIx (eVar 0) (eC (.int 1))))))
theorem B_under_u (ρ : Env) : B_under ρ = (sRet [] (eOp dLt (eOp dMul (eOp dIx (eVar 0) (eC (.int 0))) (eOp dIx (eVar 1) (eC (.int 1)))) (eOp dMul (eOp dIx (eVar 1) (eC (.int 0))) (eOp dIx (eVar 0) (eC (.int 1)))))) ρ := rfl
noncomputable def F_under : List D → Res D := runD (["one", "other"] : List Str).length n_under.length B_under
theorem ok_under {P : Program} {w : World} {K : PySem.W.Frag} {mg : Str → Option Value} {base : Heap} (T : Txt K mg) : OkF P w K mg base CX0 (0 + 1) "under" ["one", "other"] (sp0 K F_under) :=
  ok0 (g := B_under) T.f_under c_under fun f cdv A outer s H E hr => 
(fss_one (fs_ret (L := []) (fe_cmp op_lt opd_lt (fe_op op_mulA opd_mul (fe_ix (ix_A (K := K) (u1 hr.units)) opd_ix (fe_var 0) fe_int) (fe_ix (ix_A (K := K) (u1 hr.units)) opd_ix (fe_var 1) fe_int)) (fe_op op_mulA opd_mul (fe_ix (ix_A (K := K) (u1 hr.units)) opd_ix (fe_var 1) fe_int) (fe_ix (ix_A (K := K) (u1 hr.units)) opd_ix (fe_var 0) fe_int)))))

noncomputable def B_sum_of_1 : Env → Out := (sAsg [] (eCall F_plus (aCons (eVar 1) (aCons (eVar 2) aNil))) (tgN 1))
theorem B_sum_of_1_u (ρ : Env) : B_sum_of_1 ρ = (sAsg [] (eCall F_plus (aCons (eVar 1) (aCons (eVar 2) aNil))) (tgN 1)) ρ := rfl
noncomputable def B_sum_of : Env → Out := (sSeq (sAsg [] (eTup (aCons (eC (.int 0)) (aCons (eC (.int 1)) aNil))) (tgN 1))
(sSeq (sFor [] (iAny (eVar 0)) (tgN 2)
B_sum_of_1
[2])
(sRet [] (eVar 1))))
theorem B_sum_of_u (ρ : Env) : B_sum_of ρ = (sSeq (sAsg [] (eTup (aCons (eC (.int 0)) (aCons (eC (.int 1)) aNil))) (tgN 1))
(sSeq (sFor [] (iAny (eVar 0)) (tgN 2)
B_sum_of_1
[2])
(sRet [] (eVar 1)))) ρ := rfl
noncomputable def F_sum_of : List D → Res D := runD (["some"] : List Str).length n_sum_of.length B_sum_of
theorem ok_sum_of {P : Program} {w : World} {K : PySem.W.Frag} {mg : Str → Option Value} {base : Heap} (T : Txt K mg) : OkF P w K mg base CX0 (3 + 1) "sum_of" ["some"] (sp0 K F_sum_of) :=
  ok0 (g := B_sum_of) T.f_sum_of c_sum_of fun f cdv A outer s H E hr => 
(fss_cons (fs_asg (L := []) (fe_tup (fa_cons fe_int (fa_cons fe_int fa_nil))) (fg_name 1 c_sum_of.nd))
(fss_cons (fs_for (L := []) [2] PassesOwn.never (fi_any (fe_var 0)) (fg_name 2 c_sum_of.nd)
(fss_one (fs_asg (L := []) (fe_call (ok_plus T) hr (fa_cons (fe_var 1) (fa_cons (fe_var 2) fa_nil))) (fg_name 1 c_sum_of.nd))))
(fss_one (fs_ret (L := []) (fe_var 1)))))

noncomputable def B_is_price : Env → Out := (sRet [] (eAnd (eCall F_is_fraction (aCons (eVar 0) aNil)) (eOp dGt (eOp dIx (eVar 0) (eC (.int 0))) (eC (.int 0)))))
theorem B_is_price_u (ρ : Env) : B_is_price ρ = (sRet [] (eAnd (eCall F_is_fraction (aCons (eVar 0) aNil)) (eOp dGt (eOp dIx (eVar 0) (eC (.int 0))) (eC (.int 0))))) ρ := rfl
noncomputable def F_is_price : List D → Res D := runD (["thing"] : List Str).length n_is_price.length B_is_price
theorem ok_is_price {P : Program} {w : World} {K : PySem.W.Frag} {mg : Str → Option Value} {base : Heap} (T : Txt K mg) : OkF P w K mg base CX0 (2 + 1) "is_price" ["thing"] (sp0 K F_is_price) :=
  ok0 (g := B_is_price) T.f_is_price c_is_price fun f cdv A outer s H E hr => 
(fss_one (fs_ret (L := []) (fe_and (fe_call (ok_is_fraction T) hr (fa_cons (fe_var 0) fa_nil)) (fe_one (fe_cmp op_gt opd_gt (fe_ix (ix_A (K := K) (u1 hr.units)) opd_ix (fe_var 0) fe_int) fe_int)))))

noncomputable def B_is_letter : Env → Out := (sRet [] (eAnd (eIsi "str" (eVar 0)) (eAnd (eOp dEq (eCall dLen (aCons (eVar 0) aNil)) (eC (.int 1))) (eOp (dIn false) (eVar 0) (eC (.str "abcdefghijklmnopqrstuvwxyz"))))))
theorem B_is_letter_u (ρ : Env) : B_is_letter ρ = (sRet [] (eAnd (eIsi "str" (eVar 0)) (eAnd (eOp dEq (eCall dLen (aCons (eVar 0) aNil)) (eC (.int 1))) (eOp (dIn false) (eVar 0) (eC (.str "abcdefghijklmnopqrstuvwxyz")))))) ρ := rfl
noncomputable def F_is_letter : List D → Res D := runD (["thing"] : List Str).length n_is_letter.length B_is_letter
theorem ok_is_letter {P : Program} {w : World} {K : PySem.W.Frag} {mg : Str → Option Value} {base : Heap} (T : Txt K mg) : OkF P w K mg base CX0 (0 + 1) "is_letter" ["thing"] (sp0 K F_is_letter) :=
  ok0 (g := B_is_letter) T.f_is_letter c_is_letter fun f cdv A outer s H E hr => have hu65 := u65 hr; 
(fss_one (fs_ret (L := []) (fe_and (fe_isi (t := "str") tn_str (fe_var 0) (pe_bltn (v := .ty "str") (by rfl) T.b_str (by decide +kernel) rfl) T.b_isinstance) (fe_and (fe_cmp (op_eqA (K := K) hr.units) opd_eq (fe_callB (cr_len (K := K)) cd_len T.b_len (fa_cons (fe_var 0) fa_nil)) fe_int) (fe_one (fe_cmp (op_inA (K := K) hu65) opd_inF (fe_var 0) (fe_gs T.g_LETTERS_tongues)))))))

noncomputable def B_is_sign : Env → Out := (sSeq (sIf [] (bOr (bNot (bT (eIsi "tuple" (eVar 0)))) (bT (eOp dNe (eCall dLen (aCons (eVar 0) aNil)) (eC (.int 3)))))
(sRet [] (eC (.bl false)))
sPass)
(sSeq (sAsg [] (eVar 0) (tgT [(tgN 1), (tgN 2), (tgN 3)]))
(sRet [] (eAnd (eCall F_is_letter (aCons (eVar 1) aNil)) (eAnd (eCall F_is_price (aCons (eVar 2) aNil)) (eOr (eOp dIsN (eVar 3) (eC .non)) (eCall F_is_price (aCons (eVar 3) aNil))))))))
theorem B_is_sign_u (ρ : Env) : B_is_sign ρ = (sSeq (sIf [] (bOr (bNot (bT (eIsi "tuple" (eVar 0)))) (bT (eOp dNe (eCall dLen (aCons (eVar 0) aNil)) (eC (.int 3)))))
(sRet [] (eC (.bl false)))
sPass)
(sSeq (sAsg [] (eVar 0) (tgT [(tgN 1), (tgN 2), (tgN 3)]))
(sRet [] (eAnd (eCall F_is_letter (aCons (eVar 1) aNil)) (eAnd (eCall F_is_price (aCons (eVar 2) aNil)) (eOr (eOp dIsN (eVar 3) (eC .non)) (eCall F_is_price (aCons (eVar 3) aNil)))))))) ρ := rfl
noncomputable def F_is_sign : List D → Res D := runD (["thing"] : List Str).length n_is_sign.length B_is_sign
theorem ok_is_sign {P : Program} {w : World} {K : PySem.W.Frag} {mg : Str → Option Value} {base : Heap} (T : Txt K mg) : OkF P w K mg base CX0 (3 + 1) "is_sign" ["thing"] (sp0 K F_is_sign) :=
  ok0 (g := B_is_sign) T.f_is_sign c_is_sign fun f cdv A outer s H E hr => 
(fss_cons (fs_if (L := []) (ft_w (fw_or (ft_not (ft_tru (fe_isi (t := "tuple") tn_tuple (fe_var 0) (pe_bltn (v := .ty "tuple") (by rfl) T.b_tuple (by decide +kernel) rfl) T.b_isinstance))) (fw_or1 (ft_cmp (op_neA (K := K) hr.units) opd_ne gb_ne (fe_callB (cr_len (K := K)) cd_len T.b_len (fa_cons (fe_var 0) fa_nil)) fe_int))))
(fss_one (fs_ret (L := []) fe_bl))
fss_nil)
(fss_cons (fs_asg (L := []) (fe_var 0) (fg_tup (fgs_cons (fg_name 1 c_is_sign.nd) (fgs_cons (fg_name 2 c_is_sign.nd) (fgs_cons (fg_name 3 c_is_sign.nd) fgs_nil)))))
(fss_one (fs_ret (L := []) (fe_and (fe_call (ok_is_letter T) hr (fa_cons (fe_var 1) fa_nil)) (fe_and (fe_call (ok_is_price T) hr (fa_cons (fe_var 2) fa_nil)) (fe_one (fe_or (fe_cmp op_isN opd_isN (fe_var 3) fe_non) (fe_one (fe_call (ok_is_price T) hr (fa_cons (fe_var 3) fa_nil)))))))))))

noncomputable def B_are_signs : Env → Out := (sSeq (sIf [] (bOr (bNot (bT (eIsi "list" (eVar 0)))) (bNot (bT (eChain dLe dLe (eC (.int 2)) (eCall dLen (aCons (eVar 0) aNil)) (eC (.int 6))))))
(sRet [] (eC (.bl false)))
sPass)
(sSeq (sIf [] (bNot (bT (eCall dAll (aCons (eComp [1] (iAny (eVar 0)) (tgN 1) bYes (eCall F_is_sign (aCons (eVar 1) aNil))) aNil))))
(sRet [] (eC (.bl false)))
sPass)
(sRet [] (eOp dEq (eLenSet (eComp [1] (iAny (eVar 0)) (tgN 1) bYes (eOp dIx (eVar 1) (eC (.int 0))))) (eCall dLen (aCons (eVar 0) aNil))))))
theorem B_are_signs_u (ρ : Env) : B_are_signs ρ = (sSeq (sIf [] (bOr (bNot (bT (eIsi "list" (eVar 0)))) (bNot (bT (eChain dLe dLe (eC (.int 2)) (eCall dLen (aCons (eVar 0) aNil)) (eC (.int 6))))))
(sRet [] (eC (.bl false)))
sPass)
(sSeq (sIf [] (bNot (bT (eCall dAll (aCons (eComp [1] (iAny (eVar 0)) (tgN 1) bYes (eCall F_is_sign (aCons (eVar 1) aNil))) aNil))))
(sRet [] (eC (.bl false)))
sPass)
(sRet [] (eOp dEq (eLenSet (eComp [1] (iAny (eVar 0)) (tgN 1) bYes (eOp dIx (eVar 1) (eC (.int 0))))) (eCall dLen (aCons (eVar 0) aNil)))))) ρ := rfl
noncomputable def F_are_signs : List D → Res D := runD (["thing"] : List Str).length n_are_signs.length B_are_signs
theorem ok_are_signs {P : Program} {w : World} {K : PySem.W.Frag} {mg : Str → Option Value} {base : Heap} (T : Txt K mg) : OkF P w K mg base CX0 (4 + 1) "are_signs" ["thing"] (sp0 K F_are_signs) :=
  ok0 (g := B_are_signs) T.f_are_signs c_are_signs fun f cdv A outer s H E hr => 
(fss_cons (fs_if (L := []) (ft_w (fw_or (ft_not (ft_tru (fe_isi (t := "list") tn_list (fe_var 0) (pe_bltn (v := .ty "list") (by rfl) T.b_list (by decide +kernel) rfl) T.b_isinstance))) (fw_or1 (ft_not (ft_chain op_le opd_le op_le opd_le gb_cmp (fe_gi T.g_FEWEST_SIGNS) (fe_callB (cr_len (K := K)) cd_len T.b_len (fa_cons (fe_var 0) fa_nil)) (fe_gi T.g_MOST_SIGNS))))))
(fss_one (fs_ret (L := []) fe_bl))
fss_nil)
(fss_cons (fs_if (L := []) (ft_not (ft_tru (fe_callB (cr_all_k K rfl) cd_all T.b_all (fa_cons (fe_comp [("one", 1)] c_are_signs.nd (fi_any (fe_var 0)) (fun _ _ _ _ _ => (fg_name 1 c_are_signs.nd)) (fun _ _ _ _ _ => fts_nil) (fun _ _ _ _ _ => (fe_call (ok_is_sign T) hr (fa_cons (fe_var 1) fa_nil))) (blkOk_by (own := [("one", 1)]) (N := n_are_signs) (sc := defScope s_are_signs) (by decide +kernel))) fa_nil))))
(fss_one (fs_ret (L := []) fe_bl))
fss_nil)
(fss_one (fs_ret (L := []) (fe_cmp (op_eqA (K := K) hr.units) opd_eq (fe_lenSet T.b_len T.b_set (fe_comp [("one", 1)] c_are_signs.nd (fi_any (fe_var 0)) (fun _ _ _ _ _ => (fg_name 1 c_are_signs.nd)) (fun _ _ _ _ _ => fts_nil) (fun _ _ _ _ _ => (fe_ix (ix_A (K := K) (u1 hr.units)) opd_ix (fe_var 1) fe_int)) (blkOk_by (own := [("one", 1)]) (N := n_are_signs) (sc := defScope s_are_signs) (by decide +kernel)))) (fe_callB (cr_len (K := K)) cd_len T.b_len (fa_cons (fe_var 0) fa_nil)))))))

noncomputable def B_are_unlike_texts_1 : Env → Out := (sSeq (sIf [] (bOr (bNot (bT (eIsi "str" (eVar 4)))) (bOr (bT (eOp dNe (eCall dLen (aCons (eVar 4) aNil)) (eVar 1))) (bT (eOp (dIn false) (eVar 4) (eSl (eVar 0) pNo (pYes (eVar 3)))))))
(sRet [] (eC (.bl false)))
sPass)
(sIf [] (bNot (bT (eCall dAll (aCons (eComp [5] (iAny (eVar 4)) (tgN 5) bYes (eOp (dIn false) (eVar 5) (eVar 2))) aNil))))
(sRet [] (eC (.bl false)))
sPass))
theorem B_are_unlike_texts_1_u (ρ : Env) : B_are_unlike_texts_1 ρ = (sSeq (sIf [] (bOr (bNot (bT (eIsi "str" (eVar 4)))) (bOr (bT (eOp dNe (eCall dLen (aCons (eVar 4) aNil)) (eVar 1))) (bT (eOp (dIn false) (eVar 4) (eSl (eVar 0) pNo (pYes (eVar 3)))))))
(sRet [] (eC (.bl false)))
sPass)
(sIf [] (bNot (bT (eCall dAll (aCons (eComp [5] (iAny (eVar 4)) (tgN 5) bYes (eOp (dIn false) (eVar 5) (eVar 2))) aNil))))
(sRet [] (eC (.bl false)))
sPass)) ρ := rfl
noncomputable def B_are_unlike_texts : Env → Out := (sSeq (sIf [] (bNot (bT (eIsi "list" (eVar 0))))
(sRet [] (eC (.bl false)))
sPass)
(sSeq (sFor [] (iEnumD (aCons (eVar 0) aNil)) (tgT [(tgN 3), (tgN 4)])
B_are_unlike_texts_1
[3, 4, 5])
(sRet [] (eC (.bl true)))))
theorem B_are_unlike_texts_u (ρ : Env) : B_are_unlike_texts ρ = (sSeq (sIf [] (bNot (bT (eIsi "list" (eVar 0))))
(sRet [] (eC (.bl false)))
sPass)
(sSeq (sFor [] (iEnumD (aCons (eVar 0) aNil)) (tgT [(tgN 3), (tgN 4)])
B_are_unlike_texts_1
[3, 4, 5])
(sRet [] (eC (.bl true))))) ρ := rfl
noncomputable def F_are_unlike_texts : List D → Res D := runD (["thing", "size", "letters"] : List Str).length n_are_unlike_texts.length B_are_unlike_texts
theorem ok_are_unlike_texts {P : Program} {w : World} {K : PySem.W.Frag} {mg : Str → Option Value} {base : Heap} (T : Txt K mg) : OkF P w K mg base CX0 (0 + 1) "are_unlike_texts" ["thing", "size", "letters"] (sp0 K F_are_unlike_texts) :=
  ok0 (g := B_are_unlike_texts) T.f_are_unlike_texts c_are_unlike_texts fun f cdv A outer s H E hr => have hu65 := u65 hr; 
(fss_cons (fs_if (L := []) (ft_not (ft_tru (fe_isi (t := "list") tn_list (fe_var 0) (pe_bltn (v := .ty "list") (by rfl) T.b_list (by decide +kernel) rfl) T.b_isinstance)))
(fss_one (fs_ret (L := []) fe_bl))
fss_nil)
(fss_cons (fs_for (L := []) [3, 4, 5] PassesOwn.never (fi_enum T.b_enumerate (fa_cons (fe_var 0) fa_nil) len1) (fg_tup (fgs_cons (fg_name 3 c_are_unlike_texts.nd) (fgs_cons (fg_name 4 c_are_unlike_texts.nd) fgs_nil)))
(fss_cons (fs_if (L := []) (ft_w (fw_or (ft_not (ft_tru (fe_isi (t := "str") tn_str (fe_var 4) (pe_bltn (v := .ty "str") (by rfl) T.b_str (by decide +kernel) rfl) T.b_isinstance))) (fw_or (ft_cmp (op_neA (K := K) hr.units) opd_ne gb_ne (fe_callB (cr_len (K := K)) cd_len T.b_len (fa_cons (fe_var 4) fa_nil)) (fe_var 1)) (fw_or1 (ft_cmp (op_inA (K := K) hu65) opd_inF gb_in (fe_var 4) (fe_sl (fe_var 0) fo_no (fo_yes (fe_var 3))))))))
(fss_one (fs_ret (L := []) fe_bl))
fss_nil)
(fss_one (fs_if (L := []) (ft_not (ft_tru (fe_callB (cr_all_k K rfl) cd_all T.b_all (fa_cons (fe_comp [("sign", 5)] c_are_unlike_texts.nd (fi_any (fe_var 4)) (fun _ _ _ _ _ => (fg_name 5 c_are_unlike_texts.nd)) (fun _ _ _ _ _ => fts_nil) (fun _ _ _ _ _ => (fe_cmp (op_inA (K := K) hu65) opd_inF (fe_var 5) (fe_var 2))) (blkOk_by (own := [("sign", 5)]) (N := n_are_unlike_texts) (sc := defScope s_are_unlike_texts) (by decide +kernel))) fa_nil))))
(fss_one (fs_ret (L := []) fe_bl))
fss_nil))))
(fss_one (fs_ret (L := []) fe_bl))))

noncomputable def B_look_at_tongue : Env → Out := (sSeq (sIf [] (bOr (bNot (bT (eIsi "tuple" (eVar 0)))) (bT (eOp dNe (eCall dLen (aCons (eVar 0) aNil)) (eC (.int 4)))))
(sRaiseI "NoTongue" "part" [] (eC .non))
sPass)
(sSeq (sAsg [] (eVar 0) (tgT [(tgN 1), (tgN 2), (tgN 3), (tgN 4)]))
(sSeq (sIf [] (bNot (bT (eCall F_are_signs (aCons (eVar 1) aNil))))
(sRaiseI "NoTongue" "part" [] (eC (.str "signs")))
sPass)
(sSeq (sOwn 5 [] (eComp [6] (iAny (eVar 1)) (tgN 6) bYes (eOp dIx (eVar 6) (eC (.int 0)))))
(sSeq (sIf [5] (bNot (bT (eCall F_are_unlike_texts (aCons (eVar 2) (aCons (eC (.int 1)) (aCons (eVar 5) aNil))))))
(sRaiseI "NoTongue" "part" [] (eC (.str "firsts")))
sPass)
(sSeq (sIf [5] (bNot (bT (eCall F_are_unlike_texts (aCons (eVar 3) (aCons (eC (.int 2)) (aCons (eVar 5) aNil))))))
(sRaiseI "NoTongue" "part" [] (eC (.str "pairs")))
sPass)
(sIf [] (bOr (bNot (bT (eCall F_is_whole (aCons (eVar 4) aNil)))) (bNot (bT (eChain dLe dLe (eC (.int 1)) (eVar 4) (eC (.int 8))))))
(sRaiseI "NoTongue" "part" [] (eC (.str "longest")))
sPass)))))))
theorem B_look_at_tongue_u (ρ : Env) : B_look_at_tongue ρ = (sSeq (sIf [] (bOr (bNot (bT (eIsi "tuple" (eVar 0)))) (bT (eOp dNe (eCall dLen (aCons (eVar 0) aNil)) (eC (.int 4)))))
(sRaiseI "NoTongue" "part" [] (eC .non))
sPass)
(sSeq (sAsg [] (eVar 0) (tgT [(tgN 1), (tgN 2), (tgN 3), (tgN 4)]))
(sSeq (sIf [] (bNot (bT (eCall F_are_signs (aCons (eVar 1) aNil))))
(sRaiseI "NoTongue" "part" [] (eC (.str "signs")))
sPass)
(sSeq (sOwn 5 [] (eComp [6] (iAny (eVar 1)) (tgN 6) bYes (eOp dIx (eVar 6) (eC (.int 0)))))
(sSeq (sIf [5] (bNot (bT (eCall F_are_unlike_texts (aCons (eVar 2) (aCons (eC (.int 1)) (aCons (eVar 5) aNil))))))
(sRaiseI "NoTongue" "part" [] (eC (.str "firsts")))
sPass)
(sSeq (sIf [5] (bNot (bT (eCall F_are_unlike_texts (aCons (eVar 3) (aCons (eC (.int 2)) (aCons (eVar 5) aNil))))))
(sRaiseI "NoTongue" "part" [] (eC (.str "pairs")))
sPass)
(sIf [] (bOr (bNot (bT (eCall F_is_whole (aCons (eVar 4) aNil)))) (bNot (bT (eChain dLe dLe (eC (.int 1)) (eVar 4) (eC (.int 8))))))
(sRaiseI "NoTongue" "part" [] (eC (.str "longest")))
sPass))))))) ρ := rfl
noncomputable def F_look_at_tongue : List D → Res D := runD (["thing"] : List Str).length n_look_at_tongue.length B_look_at_tongue
theorem ok_look_at_tongue {P : Program} {w : World} {K : PySem.W.Frag} {mg : Str → Option Value} {base : Heap} (T : Txt K mg) : OkF P w K mg base CX0 (5 + 1) "look_at_tongue" ["thing"] (sp0 K F_look_at_tongue) :=
  ok0 (g := B_look_at_tongue) T.f_look_at_tongue c_look_at_tongue fun f cdv A outer s H E hr => 
(fss_cons (fs_if (L := []) (ft_w (fw_or (ft_not (ft_tru (fe_isi (t := "tuple") tn_tuple (fe_var 0) (pe_bltn (v := .ty "tuple") (by rfl) T.b_tuple (by decide +kernel) rfl) T.b_isinstance))) (fw_or1 (ft_cmp (op_neA (K := K) hr.units) opd_ne gb_ne (fe_callB (cr_len (K := K)) cd_len T.b_len (fa_cons (fe_var 0) fa_nil)) fe_int))))
(fss_one (fs_raiseI0 (L := []) (c := "NoTongue") (f := "part") (fa := (eC .non))))
fss_nil)
(fss_cons (fs_asg (L := []) (fe_var 0) (fg_tup (fgs_cons (fg_name 1 c_look_at_tongue.nd) (fgs_cons (fg_name 2 c_look_at_tongue.nd) (fgs_cons (fg_name 3 c_look_at_tongue.nd) (fgs_cons (fg_name 4 c_look_at_tongue.nd) fgs_nil))))))
(fss_cons (fs_if (L := []) (ft_not (ft_tru (fe_call (ok_are_signs T) hr (fa_cons (fe_var 1) fa_nil))))
(fss_one (fs_raiseI0 (L := []) (c := "NoTongue") (f := "part") (fa := (eC (.str "signs")))))
fss_nil)
(fss_cons (fs_ownLc (L := []) 5 [("one", 6)] c_look_at_tongue.nd (fi_any (fe_var 1)) (fun _ _ _ _ _ => (fg_name 6 c_look_at_tongue.nd)) (fun _ _ _ _ _ => fts_nil) (fun _ _ _ _ _ => (fe_ix (ix_A (K := K) (u1 hr.units)) opd_ix (fe_var 6) fe_int)) (blkOk_by (own := [("one", 6)]) (N := n_look_at_tongue) (sc := defScope s_look_at_tongue) (by decide +kernel)) (sw_true rfl rfl rfl (by decide +kernel)))
(fss_cons (fs_if (L := [5]) (ft_not (ft_tru (fe_call (ok_are_unlike_texts T) hr (fa_cons (fe_var 2) (fa_cons fe_int (fa_cons (fe_var 5) fa_nil))))))
(fss_one (fs_raiseI0 (L := []) (c := "NoTongue") (f := "part") (fa := (eC (.str "firsts")))))
fss_nil)
(fss_cons (fs_if (L := [5]) (ft_not (ft_tru (fe_call (ok_are_unlike_texts T) hr (fa_cons (fe_var 3) (fa_cons fe_int (fa_cons (fe_var 5) fa_nil))))))
(fss_one (fs_raiseI0 (L := []) (c := "NoTongue") (f := "part") (fa := (eC (.str "pairs")))))
fss_nil)
(fss_one (fs_if (L := []) (ft_w (fw_or (ft_not (ft_tru (fe_call (ok_is_whole T) hr (fa_cons (fe_var 4) fa_nil)))) (fw_or1 (ft_not (ft_chain op_le opd_le op_le opd_le gb_cmp fe_int (fe_var 4) (fe_gi T.g_LONGEST_tongues))))))
(fss_one (fs_raiseI0 (L := []) (c := "NoTongue") (f := "part") (fa := (eC (.str "longest")))))
fss_nil))))))))

noncomputable def B_is_want : Env → Out := (sSeq (sIf [] (bOr (bNot (bT (eIsi "tuple" (eVar 0)))) (bOr (bT (eOp dNe (eCall dLen (aCons (eVar 0) aNil)) (eC (.int 2)))) (bNot (bT (eCall F_is_name (aCons (eOp dIx (eVar 0) (eC (.int 0))) aNil))))))
(sRet [] (eC (.bl false)))
sPass)
(sRet [] (eAnd (eCall F_is_whole (aCons (eOp dIx (eVar 0) (eC (.int 1))) aNil)) (eChain dLe dLe (eC (.int 0)) (eOp dIx (eVar 0) (eC (.int 1))) (eC (.int 1000000000))))))
theorem B_is_want_u (ρ : Env) : B_is_want ρ = (sSeq (sIf [] (bOr (bNot (bT (eIsi "tuple" (eVar 0)))) (bOr (bT (eOp dNe (eCall dLen (aCons (eVar 0) aNil)) (eC (.int 2)))) (bNot (bT (eCall F_is_name (aCons (eOp dIx (eVar 0) (eC (.int 0))) aNil))))))
(sRet [] (eC (.bl false)))
sPass)
(sRet [] (eAnd (eCall F_is_whole (aCons (eOp dIx (eVar 0) (eC (.int 1))) aNil)) (eChain dLe dLe (eC (.int 0)) (eOp dIx (eVar 0) (eC (.int 1))) (eC (.int 1000000000)))))) ρ := rfl
noncomputable def F_is_want : List D → Res D := runD (["thing"] : List Str).length n_is_want.length B_is_want
theorem ok_is_want {P : Program} {w : World} {K : PySem.W.Frag} {mg : Str → Option Value} {base : Heap} (T : Txt K mg) : OkF P w K mg base CX0 (1 + 1) "is_want" ["thing"] (sp0 K F_is_want) :=
  ok0 (g := B_is_want) T.f_is_want c_is_want fun f cdv A outer s H E hr => 
(fss_cons (fs_if (L := []) (ft_w (fw_or (ft_not (ft_tru (fe_isi (t := "tuple") tn_tuple (fe_var 0) (pe_bltn (v := .ty "tuple") (by rfl) T.b_tuple (by decide +kernel) rfl) T.b_isinstance))) (fw_or (ft_cmp (op_neA (K := K) hr.units) opd_ne gb_ne (fe_callB (cr_len (K := K)) cd_len T.b_len (fa_cons (fe_var 0) fa_nil)) fe_int) (fw_or1 (ft_not (ft_tru (fe_call (ok_is_name T) hr (fa_cons (fe_ix (ix_A (K := K) (u1 hr.units)) opd_ix (fe_var 0) fe_int) fa_nil))))))))
(fss_one (fs_ret (L := []) fe_bl))
fss_nil)
(fss_one (fs_ret (L := []) (fe_and (fe_call (ok_is_whole T) hr (fa_cons (fe_ix (ix_A (K := K) (u1 hr.units)) opd_ix (fe_var 0) fe_int) fa_nil)) (fe_one (fe_chain op_le opd_le op_le opd_le fe_int (fe_ix (ix_A (K := K) (u1 hr.units)) opd_ix (fe_var 0) fe_int) (fe_gi T.g_GREATEST_COUNT)))))))

noncomputable def B_look_at_wants_1 : Env → Out := (sSeq (sIf [1] (bOr (bNot (bT (eCall F_is_want (aCons (eVar 3) aNil)))) (bT (eOp (dIn false) (eOp dIx (eVar 3) (eC (.int 0))) (eVar 1))))
(sRaiseI "NoWants" "number" [] (eVar 2))
sPass)
(sPutD 1 [] (eC (.bl true)) (eOp dIx (eVar 3) (eC (.int 0)))))
theorem B_look_at_wants_1_u (ρ : Env) : B_look_at_wants_1 ρ = (sSeq (sIf [1] (bOr (bNot (bT (eCall F_is_want (aCons (eVar 3) aNil)))) (bT (eOp (dIn false) (eOp dIx (eVar 3) (eC (.int 0))) (eVar 1))))
(sRaiseI "NoWants" "number" [] (eVar 2))
sPass)
(sPutD 1 [] (eC (.bl true)) (eOp dIx (eVar 3) (eC (.int 0))))) ρ := rfl
noncomputable def B_look_at_wants : Env → Out := (sSeq (sIf [] (bOr (bNot (bT (eIsi "list" (eVar 0)))) (bNot (bT (eChain dLe dLe (eC (.int 1)) (eCall dLen (aCons (eVar 0) aNil)) (eC (.int 20))))))
(sRaiseI "NoWants" "number" [] (eC .non))
sPass)
(sSeq (sOwn 1 [] eDct0)
(sFor [] (iEnumD (aCons (eVar 0) aNil)) (tgT [(tgN 2), (tgN 3)])
B_look_at_wants_1
[2, 3])))
theorem B_look_at_wants_u (ρ : Env) : B_look_at_wants ρ = (sSeq (sIf [] (bOr (bNot (bT (eIsi "list" (eVar 0)))) (bNot (bT (eChain dLe dLe (eC (.int 1)) (eCall dLen (aCons (eVar 0) aNil)) (eC (.int 20))))))
(sRaiseI "NoWants" "number" [] (eC .non))
sPass)
(sSeq (sOwn 1 [] eDct0)
(sFor [] (iEnumD (aCons (eVar 0) aNil)) (tgT [(tgN 2), (tgN 3)])
B_look_at_wants_1
[2, 3]))) ρ := rfl
noncomputable def F_look_at_wants : List D → Res D := runD (["thing"] : List Str).length n_look_at_wants.length B_look_at_wants
theorem ok_look_at_wants {P : Program} {w : World} {K : PySem.W.Frag} {mg : Str → Option Value} {base : Heap} (T : Txt K mg) : OkF P w K mg base CX0 (2 + 1) "look_at_wants" ["thing"] (sp0 K F_look_at_wants) :=
  ok0 (g := B_look_at_wants) T.f_look_at_wants c_look_at_wants fun f cdv A outer s H E hr => have hu65 := u65 hr; 
(fss_cons (fs_if (L := []) (ft_w (fw_or (ft_not (ft_tru (fe_isi (t := "list") tn_list (fe_var 0) (pe_bltn (v := .ty "list") (by rfl) T.b_list (by decide +kernel) rfl) T.b_isinstance))) (fw_or1 (ft_not (ft_chain op_le opd_le op_le opd_le gb_cmp fe_int (fe_callB (cr_len (K := K)) cd_len T.b_len (fa_cons (fe_var 0) fa_nil)) (fe_gi T.g_MOST_THINGS))))))
(fss_one (fs_raiseI0 (L := []) (c := "NoWants") (f := "number") (fa := (eC .non))))
fss_nil)
(fss_cons (fs_own (L := []) 1 fw_dct0 c_look_at_wants.nd)
(fss_one (fs_for (L := []) [2, 3] PassesOwn.never (fi_enum T.b_enumerate (fa_cons (fe_var 0) fa_nil) len1) (fg_tup (fgs_cons (fg_name 2 c_look_at_wants.nd) (fgs_cons (fg_name 3 c_look_at_wants.nd) fgs_nil)))
(fss_cons (fs_if (L := [1]) (ft_w (fw_or (ft_not (ft_tru (fe_call (ok_is_want T) hr (fa_cons (fe_var 3) fa_nil)))) (fw_or1 (ft_cmp (op_inA (K := K) hu65) opd_inF gb_in (fe_ix (ix_A (K := K) (u1 hr.units)) opd_ix (fe_var 3) fe_int) (fe_var 1)))))
(fss_one (fs_raiseI0 (L := []) (c := "NoWants") (f := "number") (fa := (eVar 2))))
fss_nil)
(fss_one (fs_putD (L := []) 1 (u1 hr.units) fe_bl (fe_ix (ix_A (K := K) (u1 hr.units)) opd_ix (fe_var 3) fe_int))))))))

noncomputable def B_comes : Env → Out := (sSeq (sIf [] (bT (eOp dEq (eVar 1) (eC (.str ""))))
(sRet [] (eOp (dIn true) (eVar 2) (eOp dIx (eVar 0) (eC (.int 1)))))
sPass)
(sRet [] (eOp (dIn true) (eOp dAdd (eVar 1) (eVar 2)) (eOp dIx (eVar 0) (eC (.int 2))))))
noncomputable def F_comes : List D → Res D := runD (["tongue", "ahead", "sign"] : List Str).length n_comes.length B_comes
theorem ok_comes {P : Program} {w : World} {K : PySem.W.Frag} {mg : Str → Option Value} {base : Heap} (T : Txt K mg) : OkF P w K mg base CX0 (0 + 1) "comes" ["tongue", "ahead", "sign"] (sp0 K F_comes) :=
  ok0 (g := B_comes) T.f_comes c_comes fun f cdv A outer s H E hr => have hu65 := u65 hr; 
(fss_cons (fs_if (L := []) (ft_cmp (op_eqA (K := K) hr.units) opd_eq gb_eq (fe_var 1) fe_str)
(fss_one (fs_ret (L := []) (fe_cmp (op_notInA (K := K) hu65) opd_inT (fe_var 2) (fe_ix (ix_A (K := K) (u1 hr.units)) opd_ix (fe_var 0) fe_int))))
fss_nil)
(fss_one (fs_ret (L := []) (fe_cmp (op_notInA (K := K) hu65) opd_inT (fe_op (op_addA K) opd_add (fe_var 1) (fe_var 2)) (fe_ix (ix_A (K := K) (u1 hr.units)) opd_ix (fe_var 0) fe_int)))))

noncomputable def B_may_come : Env → Out := (sSeq (sExpr [] (eCall F_look_at_tongue (aCons (eVar 0) aNil)))
(sRet [] (eCall F_comes (aCons (eVar 0) (aCons (eVar 1) (aCons (eVar 2) aNil))))))
theorem B_may_come_u (ρ : Env) : B_may_come ρ = (sSeq (sExpr [] (eCall F_look_at_tongue (aCons (eVar 0) aNil)))
(sRet [] (eCall F_comes (aCons (eVar 0) (aCons (eVar 1) (aCons (eVar 2) aNil)))))) ρ := rfl
noncomputable def F_may_come : List D → Res D := runD (["tongue", "ahead", "sign"] : List Str).length n_may_come.length B_may_come
theorem ok_may_come {P : Program} {w : World} {K : PySem.W.Frag} {mg : Str → Option Value} {base : Heap} (T : Txt K mg) : OkF P w K mg base CX0 (6 + 1) "may_come" ["tongue", "ahead", "sign"] (sp0 K F_may_come) :=
  ok0 (g := B_may_come) T.f_may_come c_may_come fun f cdv A outer s H E hr => 
(fss_cons (fs_expr (L := []) (fe_call (ok_look_at_tongue T) hr (fa_cons (fe_var 0) fa_nil)))
(fss_one (fs_ret (L := []) (fe_call (ok_comes T) hr (fa_cons (fe_var 0) (fa_cons (fe_var 1) (fa_cons (fe_var 2) fa_nil)))))))

noncomputable def B_is_amount : Env → Out := (sRet [] (eAnd (eCall F_is_fraction (aCons (eVar 0) aNil)) (eNot (eCall F_under (aCons (eVar 0) (aCons (eC (.tup [.int 0, .int 1])) aNil))))))
theorem B_is_amount_u (ρ : Env) : B_is_amount ρ = (sRet [] (eAnd (eCall F_is_fraction (aCons (eVar 0) aNil)) (eNot (eCall F_under (aCons (eVar 0) (aCons (eC (.tup [.int 0, .int 1])) aNil)))))) ρ := rfl
noncomputable def F_is_amount : List D → Res D := runD (["thing"] : List Str).length n_is_amount.length B_is_amount
theorem ok_is_amount {P : Program} {w : World} {K : PySem.W.Frag} {mg : Str → Option Value} {base : Heap} (T : Txt K mg) : OkF P w K mg base CX0 (2 + 1) "is_amount" ["thing"] (sp0 K F_is_amount) :=
  ok0 (g := B_is_amount) T.f_is_amount c_is_amount fun f cdv A outer s H E hr => 
(fss_one (fs_ret (L := []) (fe_and (fe_call (ok_is_fraction T) hr (fa_cons (fe_var 0) fa_nil)) (fe_one (fe_not (fe_call (ok_under T) hr (fa_cons (fe_var 0) (fa_cons (fe_gt T.g_NOUGHT fun _ => (.cons (.int _) (.cons (.int _) .nil))) fa_nil))))))))

noncomputable def B_are_amounts : Env → Out := (sRet [] (eAnd (eIsi "list" (eVar 0)) (eAnd (eOp dEq (eCall dLen (aCons (eVar 0) aNil)) (eVar 1)) (eCall dAll (aCons (eComp [2] (iAny (eVar 0)) (tgN 2) bYes (eCall F_is_amount (aCons (eVar 2) aNil))) aNil)))))
theorem B_are_amounts_u (ρ : Env) : B_are_amounts ρ = (sRet [] (eAnd (eIsi "list" (eVar 0)) (eAnd (eOp dEq (eCall dLen (aCons (eVar 0) aNil)) (eVar 1)) (eCall dAll (aCons (eComp [2] (iAny (eVar 0)) (tgN 2) bYes (eCall F_is_amount (aCons (eVar 2) aNil))) aNil))))) ρ := rfl
noncomputable def F_are_amounts : List D → Res D := runD (["thing", "many"] : List Str).length n_are_amounts.length B_are_amounts
theorem ok_are_amounts {P : Program} {w : World} {K : PySem.W.Frag} {mg : Str → Option Value} {base : Heap} (T : Txt K mg) : OkF P w K mg base CX0 (3 + 1) "are_amounts" ["thing", "many"] (sp0 K F_are_amounts) :=
  ok0 (g := B_are_amounts) T.f_are_amounts c_are_amounts fun f cdv A outer s H E hr => 
(fss_one (fs_ret (L := []) (fe_and (fe_isi (t := "list") tn_list (fe_var 0) (pe_bltn (v := .ty "list") (by rfl) T.b_list (by decide +kernel) rfl) T.b_isinstance) (fe_and (fe_cmp (op_eqA (K := K) hr.units) opd_eq (fe_callB (cr_len (K := K)) cd_len T.b_len (fa_cons (fe_var 0) fa_nil)) (fe_var 1)) (fe_one (fe_callB (cr_all_k K rfl) cd_all T.b_all (fa_cons (fe_comp [("one", 2)] c_are_amounts.nd (fi_any (fe_var 0)) (fun _ _ _ _ _ => (fg_name 2 c_are_amounts.nd)) (fun _ _ _ _ _ => fts_nil) (fun _ _ _ _ _ => (fe_call (ok_is_amount T) hr (fa_cons (fe_var 2) fa_nil))) (blkOk_by (own := [("one", 2)]) (N := n_are_amounts) (sc := defScope s_are_amounts) (by decide +kernel))) fa_nil)))))))

noncomputable def B_is_part : Env → Out := (sSeq (sIf [] (bOr (bNot (bT (eIsi "tuple" (eVar 1)))) (bOr (bT (eOp dNe (eCall dLen (aCons (eVar 1) aNil)) (eC (.int 3)))) (bNot (bT (eCall F_is_amount (aCons (eOp dIx (eVar 1) (eC (.int 2))) aNil))))))
(sRet [] (eC (.bl false)))
sPass)
(sSeq (sAsg [] (eSl (eVar 1) pNo (pYes (eC (.int 2)))) (tgT [(tgN 2), (tgN 3)]))
(sSeq (sIf [] (bOr (bNot (bT (eIsi "str" (eVar 2)))) (bNot (bT (eIsi "str" (eVar 3)))))
(sRet [] (eC (.bl false)))
sPass)
(sRet [] (eAnd (eOr (eOp dEq (eVar 2) (eC (.str ""))) (eOp (dIn false) (eVar 2) (eVar 0))) (eOp (dIn false) (eVar 3) (eVar 0)))))))
theorem B_is_part_u (ρ : Env) : B_is_part ρ = (sSeq (sIf [] (bOr (bNot (bT (eIsi "tuple" (eVar 1)))) (bOr (bT (eOp dNe (eCall dLen (aCons (eVar 1) aNil)) (eC (.int 3)))) (bNot (bT (eCall F_is_amount (aCons (eOp dIx (eVar 1) (eC (.int 2))) aNil))))))
(sRet [] (eC (.bl false)))
sPass)
(sSeq (sAsg [] (eSl (eVar 1) pNo (pYes (eC (.int 2)))) (tgT [(tgN 2), (tgN 3)]))
(sSeq (sIf [] (bOr (bNot (bT (eIsi "str" (eVar 2)))) (bNot (bT (eIsi "str" (eVar 3)))))
(sRet [] (eC (.bl false)))
sPass)
(sRet [] (eAnd (eOr (eOp dEq (eVar 2) (eC (.str ""))) (eOp (dIn false) (eVar 2) (eVar 0))) (eOp (dIn false) (eVar 3) (eVar 0))))))) ρ := rfl
noncomputable def F_is_part : List D → Res D := runD (["signs", "thing"] : List Str).length n_is_part.length B_is_part
theorem ok_is_part {P : Program} {w : World} {K : PySem.W.Frag} {mg : Str → Option Value} {base : Heap} (T : Txt K mg) : OkF P w K mg base CX0 (3 + 1) "is_part" ["signs", "thing"] (sp0 K F_is_part) :=
  ok0 (g := B_is_part) T.f_is_part c_is_part fun f cdv A outer s H E hr => have hu65 := u65 hr; 
(fss_cons (fs_if (L := []) (ft_w (fw_or (ft_not (ft_tru (fe_isi (t := "tuple") tn_tuple (fe_var 1) (pe_bltn (v := .ty "tuple") (by rfl) T.b_tuple (by decide +kernel) rfl) T.b_isinstance))) (fw_or (ft_cmp (op_neA (K := K) hr.units) opd_ne gb_ne (fe_callB (cr_len (K := K)) cd_len T.b_len (fa_cons (fe_var 1) fa_nil)) fe_int) (fw_or1 (ft_not (ft_tru (fe_call (ok_is_amount T) hr (fa_cons (fe_ix (ix_A (K := K) (u1 hr.units)) opd_ix (fe_var 1) fe_int) fa_nil))))))))
(fss_one (fs_ret (L := []) fe_bl))
fss_nil)
(fss_cons (fs_asg (L := []) (fe_sl (fe_var 1) fo_no (fo_yes fe_int)) (fg_tup (fgs_cons (fg_name 2 c_is_part.nd) (fgs_cons (fg_name 3 c_is_part.nd) fgs_nil))))
(fss_cons (fs_if (L := []) (ft_w (fw_or (ft_not (ft_tru (fe_isi (t := "str") tn_str (fe_var 2) (pe_bltn (v := .ty "str") (by rfl) T.b_str (by decide +kernel) rfl) T.b_isinstance))) (fw_or1 (ft_not (ft_tru (fe_isi (t := "str") tn_str (fe_var 3) (pe_bltn (v := .ty "str") (by rfl) T.b_str (by decide +kernel) rfl) T.b_isinstance))))))
(fss_one (fs_ret (L := []) fe_bl))
fss_nil)
(fss_one (fs_ret (L := []) (fe_and (fe_or (fe_cmp (op_eqA (K := K) hr.units) opd_eq (fe_var 2) fe_str) (fe_one (fe_cmp (op_inA (K := K) hu65) opd_inF (fe_var 2) (fe_var 0)))) (fe_one (fe_cmp (op_inA (K := K) hu65) opd_inF (fe_var 3) (fe_var 0)))))))))

noncomputable def B_are_parts_1 : Env → Out := (sIf [] (bT (eCall F_under (aCons (eC (.tup [.int 1, .int 1])) (aCons (eCall F_sum_of (aCons (eComp [3] (iAny (eVar 1)) (tgN 3) (bT (eOp dEq (eOp dIx (eVar 3) (eC (.int 0))) (eVar 2))) (eOp dIx (eVar 3) (eC (.int 2)))) aNil)) aNil))))
(sRet [] (eC (.bl false)))
sPass)
theorem B_are_parts_1_u (ρ : Env) : B_are_parts_1 ρ = (sIf [] (bT (eCall F_under (aCons (eC (.tup [.int 1, .int 1])) (aCons (eCall F_sum_of (aCons (eComp [3] (iAny (eVar 1)) (tgN 3) (bT (eOp dEq (eOp dIx (eVar 3) (eC (.int 0))) (eVar 2))) (eOp dIx (eVar 3) (eC (.int 2)))) aNil)) aNil))))
(sRet [] (eC (.bl false)))
sPass) ρ := rfl
noncomputable def B_are_parts : Env → Out := (sSeq (sIf [] (bOr (bNot (bT (eIsi "list" (eVar 1)))) (bNot (bT (eCall dAll (aCons (eComp [3] (iAny (eVar 1)) (tgN 3) bYes (eCall F_is_part (aCons (eVar 0) (aCons (eVar 3) aNil)))) aNil)))))
(sRet [] (eC (.bl false)))
sPass)
(sSeq (sIf [] (bT (eOp dNe (eLenSetK (eComp [3] (iAny (eVar 1)) (tgN 3) bYes (eSl (eVar 3) pNo (pYes (eC (.int 2)))))) (eCall dLen (aCons (eVar 1) aNil))))
(sRet [] (eC (.bl false)))
sPass)
(sSeq (sFor [] (iAny (eOp dAdd (eLst (aCons (eC (.str "")) aNil)) (eVar 0))) (tgN 2)
B_are_parts_1
[2, 3])
(sRet [] (eC (.bl true))))))
theorem B_are_parts_u (ρ : Env) : B_are_parts ρ = (sSeq (sIf [] (bOr (bNot (bT (eIsi "list" (eVar 1)))) (bNot (bT (eCall dAll (aCons (eComp [3] (iAny (eVar 1)) (tgN 3) bYes (eCall F_is_part (aCons (eVar 0) (aCons (eVar 3) aNil)))) aNil)))))
(sRet [] (eC (.bl false)))
sPass)
(sSeq (sIf [] (bT (eOp dNe (eLenSetK (eComp [3] (iAny (eVar 1)) (tgN 3) bYes (eSl (eVar 3) pNo (pYes (eC (.int 2)))))) (eCall dLen (aCons (eVar 1) aNil))))
(sRet [] (eC (.bl false)))
sPass)
(sSeq (sFor [] (iAny (eOp dAdd (eLst (aCons (eC (.str "")) aNil)) (eVar 0))) (tgN 2)
B_are_parts_1
[2, 3])
(sRet [] (eC (.bl true)))))) ρ := rfl
noncomputable def F_are_parts : List D → Res D := runD (["signs", "thing"] : List Str).length n_are_parts.length B_are_parts
theorem ok_are_parts {P : Program} {w : World} {K : PySem.W.Frag} {mg : Str → Option Value} {base : Heap} (T : Txt K mg) : OkF P w K mg base CX0 (4 + 1) "are_parts" ["signs", "thing"] (sp0 K F_are_parts) :=
  ok0 (g := B_are_parts) T.f_are_parts c_are_parts fun f cdv A outer s H E hr => 
(fss_cons (fs_if (L := []) (ft_w (fw_or (ft_not (ft_tru (fe_isi (t := "list") tn_list (fe_var 1) (pe_bltn (v := .ty "list") (by rfl) T.b_list (by decide +kernel) rfl) T.b_isinstance))) (fw_or1 (ft_not (ft_tru (fe_callB (cr_all_k K rfl) cd_all T.b_all (fa_cons (fe_comp [("one", 3)] c_are_parts.nd (fi_any (fe_var 1)) (fun _ _ _ _ _ => (fg_name 3 c_are_parts.nd)) (fun _ _ _ _ _ => fts_nil) (fun _ _ _ _ _ => (fe_call (ok_is_part T) hr (fa_cons (fe_var 0) (fa_cons (fe_var 3) fa_nil)))) (blkOk_by (own := [("one", 3)]) (N := n_are_parts) (sc := defScope s_are_parts) (by decide +kernel))) fa_nil)))))))
(fss_one (fs_ret (L := []) fe_bl))
fss_nil)
(fss_cons (fs_if (L := []) (ft_cmp (op_neA (K := K) hr.units) opd_ne gb_ne (fe_lenSetK (u64 hr) T.b_len T.b_set (fe_comp [("one", 3)] c_are_parts.nd (fi_any (fe_var 1)) (fun _ _ _ _ _ => (fg_name 3 c_are_parts.nd)) (fun _ _ _ _ _ => fts_nil) (fun _ _ _ _ _ => (fe_sl (fe_var 3) fo_no (fo_yes fe_int))) (blkOk_by (own := [("one", 3)]) (N := n_are_parts) (sc := defScope s_are_parts) (by decide +kernel)))) (fe_callB (cr_len (K := K)) cd_len T.b_len (fa_cons (fe_var 1) fa_nil)))
(fss_one (fs_ret (L := []) fe_bl))
fss_nil)
(fss_cons (fs_for (L := []) [2, 3] PassesOwn.never (fi_any (fe_op (op_addA K) opd_add (fe_lst (fa_cons fe_str fa_nil)) (fe_var 0))) (fg_name 2 c_are_parts.nd)
(fss_one (fs_if (L := []) (ft_tru (fe_call (ok_under T) hr (fa_cons (fe_gt T.g_ONE fun _ => (.cons (.int _) (.cons (.int _) .nil))) (fa_cons (fe_call (ok_sum_of T) hr (fa_cons (fe_comp [("one", 3)] c_are_parts.nd (fi_any (fe_var 1)) (fun _ _ _ _ _ => (fg_name 3 c_are_parts.nd)) (fun _ _ _ _ _ => (fts_one (ft_cmp (op_eqA (K := K) hr.units) opd_eq gb_eq (fe_ix (ix_A (K := K) (u1 hr.units)) opd_ix (fe_var 3) fe_int) (fe_var 2)))) (fun _ _ _ _ _ => (fe_ix (ix_A (K := K) (u1 hr.units)) opd_ix (fe_var 3) fe_int)) (blkOk_by (own := [("one", 3)]) (N := n_are_parts) (sc := defScope s_are_parts) (by decide +kernel))) fa_nil)) fa_nil))))
(fss_one (fs_ret (L := []) fe_bl))
fss_nil)))
(fss_one (fs_ret (L := []) fe_bl)))))

noncomputable def B_are_shares : Env → Out := (sSeq (sIf [] (bOr (bNot (bT (eIsi "tuple" (eVar 2)))) (bOr (bT (eOp dNe (eCall dLen (aCons (eVar 2) aNil)) (eC (.int 3)))) (bNot (bT (eCall F_is_amount (aCons (eOp dIx (eVar 2) (eC (.int 0))) aNil))))))
(sRet [] (eC (.bl false)))
sPass)
(sRet [] (eAnd (eCall F_are_parts (aCons (eComp [3, 4, 5] (iAny (eOp dIx (eVar 0) (eC (.int 0)))) (tgT [(tgN 3), (tgN 4), (tgN 5)]) bYes (eVar 3)) (aCons (eOp dIx (eVar 2) (eC (.int 1))) aNil))) (eCall F_are_amounts (aCons (eOp dIx (eVar 2) (eC (.int 2))) (aCons (eVar 1) aNil))))))
theorem B_are_shares_u (ρ : Env) : B_are_shares ρ = (sSeq (sIf [] (bOr (bNot (bT (eIsi "tuple" (eVar 2)))) (bOr (bT (eOp dNe (eCall dLen (aCons (eVar 2) aNil)) (eC (.int 3)))) (bNot (bT (eCall F_is_amount (aCons (eOp dIx (eVar 2) (eC (.int 0))) aNil))))))
(sRet [] (eC (.bl false)))
sPass)
(sRet [] (eAnd (eCall F_are_parts (aCons (eComp [3, 4, 5] (iAny (eOp dIx (eVar 0) (eC (.int 0)))) (tgT [(tgN 3), (tgN 4), (tgN 5)]) bYes (eVar 3)) (aCons (eOp dIx (eVar 2) (eC (.int 1))) aNil))) (eCall F_are_amounts (aCons (eOp dIx (eVar 2) (eC (.int 2))) (aCons (eVar 1) aNil)))))) ρ := rfl
noncomputable def F_are_shares : List D → Res D := runD (["tongue", "many", "thing"] : List Str).length n_are_shares.length B_are_shares
theorem ok_are_shares {P : Program} {w : World} {K : PySem.W.Frag} {mg : Str → Option Value} {base : Heap} (T : Txt K mg) : OkF P w K mg base CX0 (5 + 1) "are_shares" ["tongue", "many", "thing"] (sp0 K F_are_shares) :=
  ok0 (g := B_are_shares) T.f_are_shares c_are_shares fun f cdv A outer s H E hr => 
(fss_cons (fs_if (L := []) (ft_w (fw_or (ft_not (ft_tru (fe_isi (t := "tuple") tn_tuple (fe_var 2) (pe_bltn (v := .ty "tuple") (by rfl) T.b_tuple (by decide +kernel) rfl) T.b_isinstance))) (fw_or (ft_cmp (op_neA (K := K) hr.units) opd_ne gb_ne (fe_callB (cr_len (K := K)) cd_len T.b_len (fa_cons (fe_var 2) fa_nil)) fe_int) (fw_or1 (ft_not (ft_tru (fe_call (ok_is_amount T) hr (fa_cons (fe_ix (ix_A (K := K) (u1 hr.units)) opd_ix (fe_var 2) fe_int) fa_nil))))))))
(fss_one (fs_ret (L := []) fe_bl))
fss_nil)
(fss_one (fs_ret (L := []) (fe_and (fe_call (ok_are_parts T) hr (fa_cons (fe_comp [("sign", 3), ("price", 4), ("last", 5)] c_are_shares.nd (fi_any (fe_ix (ix_A (K := K) (u1 hr.units)) opd_ix (fe_var 0) fe_int)) (fun _ _ _ _ _ => (fg_tup (fgs_cons (fg_name 3 c_are_shares.nd) (fgs_cons (fg_name 4 c_are_shares.nd) (fgs_cons (fg_name 5 c_are_shares.nd) fgs_nil))))) (fun _ _ _ _ _ => fts_nil) (fun _ _ _ _ _ => (fe_var 3)) (blkOk_by (own := [("sign", 3), ("price", 4), ("last", 5)]) (N := n_are_shares) (sc := defScope s_are_shares) (by decide +kernel))) (fa_cons (fe_ix (ix_A (K := K) (u1 hr.units)) opd_ix (fe_var 2) fe_int) fa_nil))) (fe_one (fe_call (ok_are_amounts T) hr (fa_cons (fe_ix (ix_A (K := K) (u1 hr.units)) opd_ix (fe_var 2) fe_int) (fa_cons (fe_var 1) fa_nil))))))))

noncomputable def B_parts_by_signs : Env → Out := (sRet [] (eCall dDictT (aCons (eComp [1, 2, 3] (iAny (eVar 0)) (tgT [(tgN 1), (tgN 2), (tgN 3)]) bYes (eTup (aCons (eTup (aCons (eVar 1) (aCons (eVar 2) aNil))) (aCons (eVar 3) aNil)))) aNil)))
theorem B_parts_by_signs_u (ρ : Env) : B_parts_by_signs ρ = (sRet [] (eCall dDictT (aCons (eComp [1, 2, 3] (iAny (eVar 0)) (tgT [(tgN 1), (tgN 2), (tgN 3)]) bYes (eTup (aCons (eTup (aCons (eVar 1) (aCons (eVar 2) aNil))) (aCons (eVar 3) aNil)))) aNil))) ρ := rfl
noncomputable def F_parts_by_signs : List D → Res D := runD (["parts"] : List Str).length n_parts_by_signs.length B_parts_by_signs
theorem ok_parts_by_signs {P : Program} {w : World} {K : PySem.W.Frag} {mg : Str → Option Value} {base : Heap} (T : Txt K mg) : OkF P w K mg base CX0 (0 + 1) "parts_by_signs" ["parts"] (sp0 K F_parts_by_signs) :=
  ok0 (g := B_parts_by_signs) T.f_parts_by_signs c_parts_by_signs fun f cdv A outer s H E hr => 
(fss_one (fs_ret (L := []) (fe_callT (call_dictT_k (u64 hr) rfl) cd_dictT T.b_dict (fa_cons (fe_comp [("ahead", 1), ("sign", 2), ("part", 3)] c_parts_by_signs.nd (fi_any (fe_var 0)) (fun _ _ _ _ _ => (fg_tup (fgs_cons (fg_name 1 c_parts_by_signs.nd) (fgs_cons (fg_name 2 c_parts_by_signs.nd) (fgs_cons (fg_name 3 c_parts_by_signs.nd) fgs_nil))))) (fun _ _ _ _ _ => fts_nil) (fun _ _ _ _ _ => (fe_tup (fa_cons (fe_tup (fa_cons (fe_var 1) (fa_cons (fe_var 2) fa_nil))) (fa_cons (fe_var 3) fa_nil)))) (blkOk_by (own := [("ahead", 1), ("sign", 2), ("part", 3)]) (N := n_parts_by_signs) (sc := defScope s_parts_by_signs) (by decide +kernel))) fa_nil))))

noncomputable def B_signs_behind_1 : Env → Out := (sPutD 1 [] (eComp [6] (iAny (eOp dIx (eVar 0) (eC (.int 0)))) (tgN 6) (bT (eCall F_may_come (aCons (eVar 0) (aCons (eVar 2) (aCons (eOp dIx (eVar 6) (eC (.int 0))) aNil))))) (eVar 6)) (eVar 2))
theorem B_signs_behind_1_u (ρ : Env) : B_signs_behind_1 ρ = (sPutD 1 [] (eComp [6] (iAny (eOp dIx (eVar 0) (eC (.int 0)))) (tgN 6) (bT (eCall F_may_come (aCons (eVar 0) (aCons (eVar 2) (aCons (eOp dIx (eVar 6) (eC (.int 0))) aNil))))) (eVar 6)) (eVar 2)) ρ := rfl
noncomputable def B_signs_behind : Env → Out := (sSeq (sOwn 1 [] eDct0)
(sSeq (sFor [] (iAny (eOp dAdd (eLst (aCons (eC (.str "")) aNil)) (eComp [3, 4, 5] (iAny (eOp dIx (eVar 0) (eC (.int 0)))) (tgT [(tgN 3), (tgN 4), (tgN 5)]) bYes (eVar 3)))) (tgN 2)
B_signs_behind_1
[2, 6])
(sRet [1] (eVar 1))))
theorem B_signs_behind_u (ρ : Env) : B_signs_behind ρ = (sSeq (sOwn 1 [] eDct0)
(sSeq (sFor [] (iAny (eOp dAdd (eLst (aCons (eC (.str "")) aNil)) (eComp [3, 4, 5] (iAny (eOp dIx (eVar 0) (eC (.int 0)))) (tgT [(tgN 3), (tgN 4), (tgN 5)]) bYes (eVar 3)))) (tgN 2)
B_signs_behind_1
[2, 6])
(sRet [1] (eVar 1)))) ρ := rfl
noncomputable def F_signs_behind : List D → Res D := runD (["tongue"] : List Str).length n_signs_behind.length B_signs_behind
theorem ok_signs_behind {P : Program} {w : World} {K : PySem.W.Frag} {mg : Str → Option Value} {base : Heap} (T : Txt K mg) : OkF P w K mg base CX0 (7 + 1) "signs_behind" ["tongue"] (sp0 K F_signs_behind) :=
  ok0 (g := B_signs_behind) T.f_signs_behind c_signs_behind fun f cdv A outer s H E hr => 
(fss_cons (fs_own (L := []) 1 fw_dct0 c_signs_behind.nd)
(fss_cons (fs_for (L := []) [2, 6] PassesOwn.never (fi_any (fe_op (op_addA K) opd_add (fe_lst (fa_cons fe_str fa_nil)) (fe_comp [("sign", 3), ("price", 4), ("last", 5)] c_signs_behind.nd (fi_any (fe_ix (ix_A (K := K) (u1 hr.units)) opd_ix (fe_var 0) fe_int)) (fun _ _ _ _ _ => (fg_tup (fgs_cons (fg_name 3 c_signs_behind.nd) (fgs_cons (fg_name 4 c_signs_behind.nd) (fgs_cons (fg_name 5 c_signs_behind.nd) fgs_nil))))) (fun _ _ _ _ _ => fts_nil) (fun _ _ _ _ _ => (fe_var 3)) (blkOk_by (own := [("sign", 3), ("price", 4), ("last", 5)]) (N := n_signs_behind) (sc := defScope s_signs_behind) (by decide +kernel))))) (fg_name 2 c_signs_behind.nd)
(fss_one (fs_putD (L := []) 1 (u1 hr.units) (fe_comp [("row", 6)] c_signs_behind.nd (fi_any (fe_ix (ix_A (K := K) (u1 hr.units)) opd_ix (fe_var 0) fe_int)) (fun _ _ _ _ _ => (fg_name 6 c_signs_behind.nd)) (fun _ _ _ _ _ => (fts_one (ft_tru (fe_call (ok_may_come T) hr (fa_cons (fe_var 0) (fa_cons (fe_var 2) (fa_cons (fe_ix (ix_A (K := K) (u1 hr.units)) opd_ix (fe_var 6) fe_int) fa_nil))))))) (fun _ _ _ _ _ => (fe_var 6)) (blkOk_by (own := [("row", 6)]) (N := n_signs_behind) (sc := defScope s_signs_behind) (by decide +kernel))) (fe_var 2))))
(fss_one (fs_ret (L := [1]) (fe_var 1)))))

noncomputable def B_holds_for_1 : Env → Out := (sSeq (sAsg [] (eCall F_times (aCons (eVar 11) (aCons (eGet2T (eVar 5) (eTup (aCons (eSl (eVar 9) (pYes (eUn dNeg (eC (.int 1)))) pNo) (aCons (eVar 12) aNil))) (eC (.tup [.int 0, .int 1]))) aNil))) (tgN 15))
(sSeq (sAsg [] (eOp dAdd (eVar 8) (eC (.int 1))) (tgN 8))
(sSeq (sIf [] (bT (eOp dGt (eVar 8) (eC (.int 5000))))
(sRet [] (eC (.bl false)))
sPass)
(sSeq (sIf [] (bAnd (bT (eOp dNotN (eVar 14) (eC .non))) (bT (eCall F_under (aCons (eCall F_plus (aCons (eCall F_times (aCons (eVar 6) (aCons (eCall F_plus (aCons (eVar 10) (aCons (eVar 14) aNil))) aNil))) (aCons (eVar 15) aNil))) (aCons (eVar 3) aNil)))))
(sRet [] (eC (.bl false)))
sPass)
(need 7 (sApp 7 [] (eTup (aCons (eOp dAdd (eVar 9) (eVar 12)) (aCons (eCall F_plus (aCons (eVar 10) (aCons (eVar 13) aNil))) (aCons (eVar 15) aNil))))))))))
theorem B_holds_for_1_u (ρ : Env) : B_holds_for_1 ρ = (sSeq (sAsg [] (eCall F_times (aCons (eVar 11) (aCons (eGet2T (eVar 5) (eTup (aCons (eSl (eVar 9) (pYes (eUn dNeg (eC (.int 1)))) pNo) (aCons (eVar 12) aNil))) (eC (.tup [.int 0, .int 1]))) aNil))) (tgN 15))
(sSeq (sAsg [] (eOp dAdd (eVar 8) (eC (.int 1))) (tgN 8))
(sSeq (sIf [] (bT (eOp dGt (eVar 8) (eC (.int 5000))))
(sRet [] (eC (.bl false)))
sPass)
(sSeq (sIf [] (bAnd (bT (eOp dNotN (eVar 14) (eC .non))) (bT (eCall F_under (aCons (eCall F_plus (aCons (eCall F_times (aCons (eVar 6) (aCons (eCall F_plus (aCons (eVar 10) (aCons (eVar 14) aNil))) aNil))) (aCons (eVar 15) aNil))) (aCons (eVar 3) aNil)))))
(sRet [] (eC (.bl false)))
sPass)
(need 7 (sApp 7 [] (eTup (aCons (eOp dAdd (eVar 9) (eVar 12)) (aCons (eCall F_plus (aCons (eVar 10) (aCons (eVar 13) aNil))) (aCons (eVar 15) aNil)))))))))) ρ := rfl
noncomputable def B_holds_for_2 : Env → Out := (sSeq (sPop 7 (tgT [(tgN 9), (tgN 10), (tgN 11)]))
(sSeq (sIf [] (bOr (bT (eOp dEq (eCall dLen (aCons (eVar 9) aNil)) (eVar 0))) (bNot (bT (eCall F_under (aCons (eCall F_times (aCons (eVar 6) (aCons (eVar 10) aNil))) (aCons (eVar 3) aNil))))))
sCont
sPass)
(sFor [] (iAny (eOp dIx (eVar 1) (eSl (eVar 9) (pYes (eUn dNeg (eC (.int 1)))) pNo))) (tgT [(tgN 12), (tgN 13), (tgN 14)])
B_holds_for_1
[12, 13, 14, 15])))
theorem B_holds_for_2_u (ρ : Env) : B_holds_for_2 ρ = (sSeq (sPop 7 (tgT [(tgN 9), (tgN 10), (tgN 11)]))
(sSeq (sIf [] (bOr (bT (eOp dEq (eCall dLen (aCons (eVar 9) aNil)) (eVar 0))) (bNot (bT (eCall F_under (aCons (eCall F_times (aCons (eVar 6) (aCons (eVar 10) aNil))) (aCons (eVar 3) aNil))))))
sCont
sPass)
(sFor [] (iAny (eOp dIx (eVar 1) (eSl (eVar 9) (pYes (eUn dNeg (eC (.int 1)))) pNo))) (tgT [(tgN 12), (tgN 13), (tgN 14)])
B_holds_for_1
[12, 13, 14, 15]))) ρ := rfl
noncomputable def B_holds_for : Env → Out := (sSeq (sAsg [] (eTup (aCons (eVar 2) (aCons (eC (.int 1)) aNil))) (tgN 6))
(sSeq (sOwn 7 [] (eLst (aCons (eTup (aCons (eC (.str "")) (aCons (eC (.tup [.int 0, .int 1])) (aCons (eVar 4) aNil)))) aNil)))
(sSeq (sAsg [] (eC (.int 0)) (tgN 8))
(sSeq (sWhile [7] (bT (eOp dNe (eVar 7) (eLst aNil)))
B_holds_for_2)
(sRet [] (eC (.bl true)))))))
theorem B_holds_for_u (ρ : Env) : B_holds_for ρ = (sSeq (sAsg [] (eTup (aCons (eVar 2) (aCons (eC (.int 1)) aNil))) (tgN 6))
(sSeq (sOwn 7 [] (eLst (aCons (eTup (aCons (eC (.str "")) (aCons (eC (.tup [.int 0, .int 1])) (aCons (eVar 4) aNil)))) aNil)))
(sSeq (sAsg [] (eC (.int 0)) (tgN 8))
(sSeq (sWhile [7] (bT (eOp dNe (eVar 7) (eLst aNil)))
B_holds_for_2)
(sRet [] (eC (.bl true))))))) ρ := rfl
noncomputable def F_holds_for : List D → Res D := runD (["longest", "behind", "count", "value", "whole", "by_signs"] : List Str).length n_holds_for.length B_holds_for
theorem ok_holds_for {P : Program} {w : World} {K : PySem.W.Frag} {mg : Str → Option Value} {base : Heap} (T : Txt K mg) : OkF P w K mg base CX0 (3 + 1) "holds_for" ["longest", "behind", "count", "value", "whole", "by_signs"] (sp0 K F_holds_for) :=
  ok0 (g := B_holds_for) T.f_holds_for c_holds_for fun f cdv A outer s H E hr => 
(fss_cons (fs_asg (L := []) (fe_tup (fa_cons (fe_var 2) (fa_cons fe_int fa_nil))) (fg_name 6 c_holds_for.nd))
(fss_cons (fs_own (L := []) 7 (fw_lst (fa_cons (fe_tup (fa_cons fe_str (fa_cons (fe_gt T.g_NOUGHT fun _ => (.cons (.int _) (.cons (.int _) .nil))) (fa_cons (fe_var 4) fa_nil)))) fa_nil)) c_holds_for.nd)
(fss_cons (fs_asg (L := []) fe_int (fg_name 8 c_holds_for.nd))
(fss_cons (fs_while (L := [7]) PassesOwn.never (ft_cmp (op_neA (K := K) hr.units) opd_ne gb_ne (fe_var 7) (fe_lst fa_nil))
(fss_cons (fs_pop 7 (fg_tup (fgs_cons (fg_name 9 c_holds_for.nd) (fgs_cons (fg_name 10 c_holds_for.nd) (fgs_cons (fg_name 11 c_holds_for.nd) fgs_nil)))))
(fss_cons (fs_if (L := []) (ft_w (fw_or (ft_cmp (op_eqA (K := K) hr.units) opd_eq gb_eq (fe_callB (cr_len (K := K)) cd_len T.b_len (fa_cons (fe_var 9) fa_nil)) (fe_var 0)) (fw_or1 (ft_not (ft_tru (fe_call (ok_under T) hr (fa_cons (fe_call (ok_times T) hr (fa_cons (fe_var 6) (fa_cons (fe_var 10) fa_nil))) (fa_cons (fe_var 3) fa_nil))))))))
(fss_one fs_cont)
fss_nil)
(fss_one (fs_for (L := []) [12, 13, 14, 15] PassesOwn.never (fi_any (fe_ix (ix_A (K := K) (u1 hr.units)) opd_ix (fe_var 1) (fe_sl (fe_var 9) (fo_yes (fe_un un_neg und_neg fe_int)) fo_no))) (fg_tup (fgs_cons (fg_name 12 c_holds_for.nd) (fgs_cons (fg_name 13 c_holds_for.nd) (fgs_cons (fg_name 14 c_holds_for.nd) fgs_nil))))
(fss_cons (fs_asg (L := []) (fe_call (ok_times T) hr (fa_cons (fe_var 11) (fa_cons (fe_get2T (u1 hr.units) (fe_var 5) (fa_cons (fe_sl (fe_var 9) (fo_yes (fe_un un_neg und_neg fe_int)) fo_no) (fa_cons (fe_var 12) fa_nil)) (fe_gt T.g_NOUGHT fun _ => (.cons (.int _) (.cons (.int _) .nil)))) fa_nil))) (fg_name 15 c_holds_for.nd))
(fss_cons (fs_asg (L := []) (fe_op (op_addA K) opd_add (fe_var 8) fe_int) (fg_name 8 c_holds_for.nd))
(fss_cons (fs_if (L := []) (ft_cmp op_gt opd_gt gb_cmp (fe_var 8) (fe_gi T.g_MOST_LOOKED))
(fss_one (fs_ret (L := []) fe_bl))
fss_nil)
(fss_cons (fs_if (L := []) (ft_w (fw_and (ft_cmp op_notN opd_notN gb_notN (fe_var 14) fe_non) (fw_and1 (ft_tru (fe_call (ok_under T) hr (fa_cons (fe_call (ok_plus T) hr (fa_cons (fe_call (ok_times T) hr (fa_cons (fe_var 6) (fa_cons (fe_call (ok_plus T) hr (fa_cons (fe_var 10) (fa_cons (fe_var 14) fa_nil))) fa_nil))) (fa_cons (fe_var 15) fa_nil))) (fa_cons (fe_var 3) fa_nil)))))))
(fss_one (fs_ret (L := []) fe_bl))
fss_nil)
(fss_one (fs_app (L := []) 7 (fe_tup (fa_cons (fe_op (op_addA K) opd_add (fe_var 9) (fe_var 12)) (fa_cons (fe_call (ok_plus T) hr (fa_cons (fe_var 10) (fa_cons (fe_var 13) fa_nil))) (fa_cons (fe_var 15) fa_nil)))))))))))))))
(fss_one (fs_ret (L := []) fe_bl))))))

noncomputable def B_lets_shares_1 : Env → Out := (sIf [] (bNot (bT (eCall F_holds_for (aCons (eOp dIx (eVar 0) (eC (.int 3))) (aCons (eVar 7) (aCons (eVar 9) (aCons (eVar 10) (aCons (eVar 3) (aCons (eVar 6) aNil)))))))))
(sRet [] (eC (.bl false)))
sPass)
theorem B_lets_shares_1_u (ρ : Env) : B_lets_shares_1 ρ = (sIf [] (bNot (bT (eCall F_holds_for (aCons (eOp dIx (eVar 0) (eC (.int 3))) (aCons (eVar 7) (aCons (eVar 9) (aCons (eVar 10) (aCons (eVar 3) (aCons (eVar 6) aNil)))))))))
(sRet [] (eC (.bl false)))
sPass) ρ := rfl
noncomputable def B_lets_shares : Env → Out := (sSeq (sExpr [] (eCall F_look_at_tongue (aCons (eVar 0) aNil)))
(sSeq (sExpr [] (eCall F_look_at_wants (aCons (eVar 1) aNil)))
(sSeq (sIf [] (bNot (bT (eCall F_are_shares (aCons (eVar 0) (aCons (eCall dLen (aCons (eVar 1) aNil)) (aCons (eVar 2) aNil))))))
(sRet [] (eC (.bl false)))
sPass)
(sSeq (sAsg [] (eVar 2) (tgT [(tgN 3), (tgN 4), (tgN 5)]))
(sSeq (sAsg [] (eCall F_parts_by_signs (aCons (eVar 4) aNil)) (tgN 6))
(sSeq (sAsg [] (eCall F_signs_behind (aCons (eVar 0) aNil)) (tgN 7))
(sSeq (sFor [] (iZipD (aCons (eVar 1) (aCons (eVar 5) aNil))) (tgT [(tgT [(tgN 8), (tgN 9)]), (tgN 10)])
B_lets_shares_1
[8, 9, 10])
(sRet [] (eC (.bl true))))))))))
theorem B_lets_shares_u (ρ : Env) : B_lets_shares ρ = (sSeq (sExpr [] (eCall F_look_at_tongue (aCons (eVar 0) aNil)))
(sSeq (sExpr [] (eCall F_look_at_wants (aCons (eVar 1) aNil)))
(sSeq (sIf [] (bNot (bT (eCall F_are_shares (aCons (eVar 0) (aCons (eCall dLen (aCons (eVar 1) aNil)) (aCons (eVar 2) aNil))))))
(sRet [] (eC (.bl false)))
sPass)
(sSeq (sAsg [] (eVar 2) (tgT [(tgN 3), (tgN 4), (tgN 5)]))
(sSeq (sAsg [] (eCall F_parts_by_signs (aCons (eVar 4) aNil)) (tgN 6))
(sSeq (sAsg [] (eCall F_signs_behind (aCons (eVar 0) aNil)) (tgN 7))
(sSeq (sFor [] (iZipD (aCons (eVar 1) (aCons (eVar 5) aNil))) (tgT [(tgT [(tgN 8), (tgN 9)]), (tgN 10)])
B_lets_shares_1
[8, 9, 10])
(sRet [] (eC (.bl true)))))))))) ρ := rfl
noncomputable def F_lets_shares : List D → Res D := runD (["tongue", "wants", "thing"] : List Str).length n_lets_shares.length B_lets_shares
theorem ok_lets_shares {P : Program} {w : World} {K : PySem.W.Frag} {mg : Str → Option Value} {base : Heap} (T : Txt K mg) : OkF P w K mg base CX0 (8 + 1) "lets_shares" ["tongue", "wants", "thing"] (sp0 K F_lets_shares) :=
  ok0 (g := B_lets_shares) T.f_lets_shares c_lets_shares fun f cdv A outer s H E hr => 
(fss_cons (fs_expr (L := []) (fe_call (ok_look_at_tongue T) hr (fa_cons (fe_var 0) fa_nil)))
(fss_cons (fs_expr (L := []) (fe_call (ok_look_at_wants T) hr (fa_cons (fe_var 1) fa_nil)))
(fss_cons (fs_if (L := []) (ft_not (ft_tru (fe_call (ok_are_shares T) hr (fa_cons (fe_var 0) (fa_cons (fe_callB (cr_len (K := K)) cd_len T.b_len (fa_cons (fe_var 1) fa_nil)) (fa_cons (fe_var 2) fa_nil))))))
(fss_one (fs_ret (L := []) fe_bl))
fss_nil)
(fss_cons (fs_asg (L := []) (fe_var 2) (fg_tup (fgs_cons (fg_name 3 c_lets_shares.nd) (fgs_cons (fg_name 4 c_lets_shares.nd) (fgs_cons (fg_name 5 c_lets_shares.nd) fgs_nil)))))
(fss_cons (fs_asg (L := []) (fe_call (ok_parts_by_signs T) hr (fa_cons (fe_var 4) fa_nil)) (fg_name 6 c_lets_shares.nd))
(fss_cons (fs_asg (L := []) (fe_call (ok_signs_behind T) hr (fa_cons (fe_var 0) fa_nil)) (fg_name 7 c_lets_shares.nd))
(fss_cons (fs_for (L := []) [8, 9, 10] PassesOwn.never (fi_zip T.b_zip (fa_cons (fe_var 1) (fa_cons (fe_var 5) fa_nil)) len2) (fg_tup (fgs_cons (fg_tup (fgs_cons (fg_name 8 c_lets_shares.nd) (fgs_cons (fg_name 9 c_lets_shares.nd) fgs_nil))) (fgs_cons (fg_name 10 c_lets_shares.nd) fgs_nil)))
(fss_one (fs_if (L := []) (ft_not (ft_tru (fe_call (ok_holds_for T) hr (fa_cons (fe_ix (ix_A (K := K) (u1 hr.units)) opd_ix (fe_var 0) fe_int) (fa_cons (fe_var 7) (fa_cons (fe_var 9) (fa_cons (fe_var 10) (fa_cons (fe_var 3) (fa_cons (fe_var 6) fa_nil)))))))))
(fss_one (fs_ret (L := []) fe_bl))
fss_nil)))
(fss_one (fs_ret (L := []) fe_bl)))))))))

noncomputable def B__law_cell_at : Env → Out := (sSeq (sIf [] (bT (eOp dLt (eVar 1) (eCall dLen (aCons (eVar 0) aNil))))
(sRet [] (eOp dIx (eVar 0) (eVar 1)))
sPass)
(sRet [] (eC (.int 0))))
noncomputable def F__law_cell_at : List D → Res D := runD (["_law_script", "_law_k"] : List Str).length n__law_cell_at.length B__law_cell_at
theorem ok__law_cell_at {P : Program} {w : World} {K : PySem.W.Frag} {mg : Str → Option Value} {base : Heap} (T : Txt K mg) : OkF P w K mg base CX0 (0 + 1) "_law_cell_at" ["_law_script", "_law_k"] (sp0 K F__law_cell_at) :=
  ok0 (g := B__law_cell_at) T.f__law_cell_at c__law_cell_at fun f cdv A outer s H E hr => 
(fss_cons (fs_if (L := []) (ft_cmp op_lt opd_lt gb_cmp (fe_var 1) (fe_callB (cr_len (K := K)) cd_len T.b_len (fa_cons (fe_var 0) fa_nil)))
(fss_one (fs_ret (L := []) (fe_ix (ix_A (K := K) (u1 hr.units)) opd_ix (fe_var 0) (fe_var 1))))
fss_nil)
(fss_one (fs_ret (L := []) fe_int)))

noncomputable def B__law_source : Env → Out := (sSeq (sAsg [] (eOp dMod (eOp dMul (eOp dAdd (eOp dAdd (eOp dMod (eVar 0) (eC (.int 1000003))) (eOp dMul (eC (.int 104729)) (eVar 1))) (eC (.int 7))) (eC (.int 48271))) (eC (.int 2147483647))) (tgN 2))
(sRetO [] (eLst (aCons (eOp dMul (eVar 0) (eCall dInt (aCons (eOp dGe (eVar 0) (eOp dPow (eC (.int 10)) (eC (.int 18)))) aNil))) (aCons (eVar 2) aNil)))))
noncomputable def F__law_source : List D → Res D := runO (["_law_cell", "_law_k"] : List Str).length n__law_source.length B__law_source
theorem ok__law_source {P : Program} {w : World} {K : PySem.W.Frag} {mg : Str → Option Value} {base : Heap} (T : Txt K mg) : OkF P w K mg base CX0 (0 + 1) "_law_source" ["_law_cell", "_law_k"] (spO K F__law_source) :=
  okO (g := B__law_source) T.f__law_source c__law_source fun f cdv A outer s H E hr => 
(fss_cons (fs_asg (L := []) (fe_op op_mod opd_mod (fe_op op_mulA opd_mul (fe_op (op_addA K) opd_add (fe_op (op_addA K) opd_add (fe_op op_mod opd_mod (fe_var 0) fe_int) (fe_op op_mulA opd_mul fe_int (fe_var 1))) fe_int) fe_int) fe_int) (fg_name 2 c__law_source.nd))
(fss_one (fs_retO (L := []) (fw_lst (fa_cons (fe_op op_mulA opd_mul (fe_var 0) (fe_callT call_int1 cd_int T.b_int (fa_cons (fe_cmp op_ge opd_ge (fe_var 0) (fe_op op_pow opd_pow fe_int fe_int)) fa_nil))) (fa_cons (fe_var 2) fa_nil))))))

noncomputable def B__law_draw : Env → Out := (sSeq (sIf [0] (bT (eOp dGt (eOp dIx (eVar 0) (eC (.int 0))) (eC (.int 0))))
(sSeq (sAsg [0] (eOp dMod (eOp dIx (eVar 0) (eC (.int 0))) (eVar 1)) (tgN 2))
(sSeq (sPutL 0 [0] (eOp dDiv (eOp dIx (eVar 0) (eC (.int 0))) (eVar 1)) (eC (.int 0)))
(sRet [] (eVar 2))))
sPass)
(sSeq (sPutL 0 [0] (eOp dMod (eOp dAdd (eOp dMul (eOp dIx (eVar 0) (eC (.int 1))) (eC (.int 48271))) (eC (.int 11))) (eC (.int 2147483647))) (eC (.int 1)))
(sRet [0] (eOp dMod (eOp dDiv (eOp dMod (eOp dMul (eOp dIx (eVar 0) (eC (.int 1))) (eOp dIx (eVar 0) (eC (.int 1)))) (eC (.int 2147483629))) (eC (.int 64))) (eVar 1)))))
noncomputable def F__law_draw : List D → Res (D × D) := runIO (["_law_source_here", "_law_many"] : List Str).length n__law_draw.length 0 B__law_draw
theorem ok__law_draw {P : Program} {w : World} {K : PySem.W.Frag} {mg : Str → Option Value} {base : Heap} (T : Txt K mg) : OkF P w K mg base CX0 (0 + 1) "_law_draw" ["_law_source_here", "_law_many"] (spIO K 0 F__law_draw) :=
  okIO 0 (g := B__law_draw) T.f__law_draw c__law_draw fun f cdv A outer s H E hr => 
(fss_cons (fs_if (L := [0]) (ft_cmp op_gt opd_gt gb_cmp (fe_ix (ix_A (K := K) (u1 hr.units)) opd_ix (fe_var 0) fe_int) fe_int)
(fss_cons (fs_asg (L := [0]) (fe_op op_mod opd_mod (fe_ix (ix_A (K := K) (u1 hr.units)) opd_ix (fe_var 0) fe_int) (fe_var 1)) (fg_name 2 c__law_draw.nd))
(fss_cons (fs_putL (L := [0]) 0 (fe_op op_fdivW opd_div (fe_ix (ix_A (K := K) (u1 hr.units)) opd_ix (fe_var 0) fe_int) (fe_var 1)) fe_int)
(fss_one (fs_ret (L := []) (fe_var 2)))))
fss_nil)
(fss_cons (fs_putL (L := [0]) 0 (fe_op op_mod opd_mod (fe_op (op_addA K) opd_add (fe_op op_mulA opd_mul (fe_ix (ix_A (K := K) (u1 hr.units)) opd_ix (fe_var 0) fe_int) fe_int) fe_int) fe_int) fe_int)
(fss_one (fs_ret (L := [0]) (fe_op op_mod opd_mod (fe_op op_fdivW opd_div (fe_op op_mod opd_mod (fe_op op_mulA opd_mul (fe_ix (ix_A (K := K) (u1 hr.units)) opd_ix (fe_var 0) fe_int) (fe_ix (ix_A (K := K) (u1 hr.units)) opd_ix (fe_var 0) fe_int)) fe_int) fe_int) (fe_var 1))))))

noncomputable def B__law_case : Env → Out := (sSeq (sAsgM (mOp dAdd (mP [] (eC (.int 3))) (mIO 0 0 F__law_draw (mAP [] (aCons (eC (.int 4)) aNil)))) (tgN 1))
(sSeq (sAsg [] (eOp dIx (eLst (aCons (eC (.int 0)) (aCons (eC (.int 0)) (aCons (eC (.int 0)) (aCons (eC (.int 7)) (aCons (eC (.int 5)) (aCons (eC (.int 5)) (aCons (eC (.int 4)) aNil)))))))) (eVar 1)) (tgN 2))
(sSeq (sAsgM (mOp dAdd (mP [] (eVar 2)) (mOp dIx (mP [] (eLst (aCons (eC (.int 0)) (aCons (eC (.int 0)) (aCons (eC (.int 1)) (aCons (eUn dNeg (eC (.int 1))) aNil)))))) (mIO 0 0 F__law_draw (mAP [] (aCons (eC (.int 4)) aNil))))) (tgN 3))
(sSeq (sAsgM (mApp dMax2 (mCons (mP [] (eVar 3)) (mCons (mOp dIx (mP [] (eLst (aCons (eC (.int 8)) (aCons (eVar 3) aNil)))) (mIO 0 0 F__law_draw (mAP [] (aCons (eC (.int 2)) aNil)))) mNil))) (tgN 4))
(sSeq (sAsgM (mOp dAdd (mP [] (eC (.int 1))) (mIO 0 0 F__law_draw (mCons (mOp dIx (mP [] (eLst (aCons (eC (.int 9)) (aCons (eOp dPow (eC (.int 10)) (eC (.int 9))) aNil)))) (mIO 0 0 F__law_draw (mAP [] (aCons (eC (.int 2)) aNil)))) mNil))) (tgN 5))
(sRet [] (eTup (aCons (eVar 1) (aCons (eVar 2) (aCons (eVar 3) (aCons (eVar 4) (aCons (eVar 5) aNil))))))))))))
theorem B__law_case_u (ρ : Env) : B__law_case ρ = (sSeq (sAsgM (mOp dAdd (mP [] (eC (.int 3))) (mIO 0 0 F__law_draw (mAP [] (aCons (eC (.int 4)) aNil)))) (tgN 1))
(sSeq (sAsg [] (eOp dIx (eLst (aCons (eC (.int 0)) (aCons (eC (.int 0)) (aCons (eC (.int 0)) (aCons (eC (.int 7)) (aCons (eC (.int 5)) (aCons (eC (.int 5)) (aCons (eC (.int 4)) aNil)))))))) (eVar 1)) (tgN 2))
(sSeq (sAsgM (mOp dAdd (mP [] (eVar 2)) (mOp dIx (mP [] (eLst (aCons (eC (.int 0)) (aCons (eC (.int 0)) (aCons (eC (.int 1)) (aCons (eUn dNeg (eC (.int 1))) aNil)))))) (mIO 0 0 F__law_draw (mAP [] (aCons (eC (.int 4)) aNil))))) (tgN 3))
(sSeq (sAsgM (mApp dMax2 (mCons (mP [] (eVar 3)) (mCons (mOp dIx (mP [] (eLst (aCons (eC (.int 8)) (aCons (eVar 3) aNil)))) (mIO 0 0 F__law_draw (mAP [] (aCons (eC (.int 2)) aNil)))) mNil))) (tgN 4))
(sSeq (sAsgM (mOp dAdd (mP [] (eC (.int 1))) (mIO 0 0 F__law_draw (mCons (mOp dIx (mP [] (eLst (aCons (eC (.int 9)) (aCons (eOp dPow (eC (.int 10)) (eC (.int 9))) aNil)))) (mIO 0 0 F__law_draw (mAP [] (aCons (eC (.int 2)) aNil)))) mNil))) (tgN 5))
(sRet [] (eTup (aCons (eVar 1) (aCons (eVar 2) (aCons (eVar 3) (aCons (eVar 4) (aCons (eVar 5) aNil)))))))))))) ρ := rfl
noncomputable def F__law_case : List D → Res (D × D) := runIO (["_law_source_here"] : List Str).length n__law_case.length 0 B__law_case
theorem ok__law_case {P : Program} {w : World} {K : PySem.W.Frag} {mg : Str → Option Value} {base : Heap} (T : Txt K mg) : OkF P w K mg base CX0 (1 + 1) "_law_case" ["_law_source_here"] (spIO K 0 F__law_case) :=
  okIO 0 (g := B__law_case) T.f__law_case c__law_case fun f cdv A outer s H E hr => 
(fss_cons (fs_asgM (me_op (op_addA K) opd_add (me_p (L := []) fe_int) (me_io (ok__law_draw T) hr (mio_here 0 (ma_p (L := []) (fa_cons fe_int fa_nil))))) (fg_name 1 c__law_case.nd))
(fss_cons (fs_asg (L := []) (fe_ix (ix_A (K := K) (u1 hr.units)) opd_ix (fe_lst (fa_cons fe_int (fa_cons fe_int (fa_cons fe_int (fa_cons fe_int (fa_cons fe_int (fa_cons fe_int (fa_cons fe_int fa_nil)))))))) (fe_var 1)) (fg_name 2 c__law_case.nd))
(fss_cons (fs_asgM (me_op (op_addA K) opd_add (me_p (L := []) (fe_var 2)) (me_ix (ix_A (K := K) (u1 hr.units)) opd_ix (me_p (L := []) (fe_lst (fa_cons fe_int (fa_cons fe_int (fa_cons fe_int (fa_cons (fe_un un_neg und_neg fe_int) fa_nil)))))) (me_io (ok__law_draw T) hr (mio_here 0 (ma_p (L := []) (fa_cons fe_int fa_nil)))))) (fg_name 3 c__law_case.nd))
(fss_cons (fs_asgM (me_callB (call_max2 rfl) cd_max2 T.b_max (ma_cons (me_p (L := []) (fe_var 3)) (ma_cons (me_ix (ix_A (K := K) (u1 hr.units)) opd_ix (me_p (L := []) (fe_lst (fa_cons fe_int (fa_cons (fe_var 3) fa_nil)))) (me_io (ok__law_draw T) hr (mio_here 0 (ma_p (L := []) (fa_cons fe_int fa_nil))))) ma_nil))) (fg_name 4 c__law_case.nd))
(fss_cons (fs_asgM (me_op (op_addA K) opd_add (me_p (L := []) fe_int) (me_io (ok__law_draw T) hr (mio_here 0 (ma_cons (me_ix (ix_A (K := K) (u1 hr.units)) opd_ix (me_p (L := []) (fe_lst (fa_cons fe_int (fa_cons (fe_op op_pow opd_pow fe_int fe_int) fa_nil)))) (me_io (ok__law_draw T) hr (mio_here 0 (ma_p (L := []) (fa_cons fe_int fa_nil))))) ma_nil)))) (fg_name 5 c__law_case.nd))
(fss_one (fs_ret (L := []) (fe_tup (fa_cons (fe_var 1) (fa_cons (fe_var 2) (fa_cons (fe_var 3) (fa_cons (fe_var 4) (fa_cons (fe_var 5) fa_nil)))))))))))))

noncomputable def B__law_tongue_1 : Env → Out := (need 3 (sAppM 3 (mTup (mCons (mP [] (eOp dIx (eC (.str "fedcba")) (eVar 4))) (mCons (mP [] (eTup (aCons (eC (.int 1)) (aCons (eC (.int 1)) aNil)))) (mCons (mOp dIx (mP [] (eLst (aCons (eTup (aCons (eC (.int 1)) (aCons (eC (.int 1)) aNil))) (aCons (eC .non) (aCons (eTup (aCons (eC (.int 2)) (aCons (eC (.int 1)) aNil))) aNil))))) (mIO 0 0 F__law_draw (mAP [] (aCons (eC (.int 3)) aNil)))) mNil))))))
theorem B__law_tongue_1_u (ρ : Env) : B__law_tongue_1 ρ = (need 3 (sAppM 3 (mTup (mCons (mP [] (eOp dIx (eC (.str "fedcba")) (eVar 4))) (mCons (mP [] (eTup (aCons (eC (.int 1)) (aCons (eC (.int 1)) aNil)))) (mCons (mOp dIx (mP [] (eLst (aCons (eTup (aCons (eC (.int 1)) (aCons (eC (.int 1)) aNil))) (aCons (eC .non) (aCons (eTup (aCons (eC (.int 2)) (aCons (eC (.int 1)) aNil))) aNil))))) (mIO 0 0 F__law_draw (mAP [] (aCons (eC (.int 3)) aNil)))) mNil)))))) ρ := rfl
noncomputable def B__law_tongue : Env → Out := (sSeq (sOwn 3 [] (eLst aNil))
(sSeq (sFor [] (iRange (aCons (eVar 1) aNil)) (tgN 4)
B__law_tongue_1
[4])
(sSeq (sPutL 3 [] (eTup (aCons (eC (.str "f")) (aCons (eTup (aCons (eC (.int 1)) (aCons (eC (.int 1)) aNil))) (aCons (eTup (aCons (eC (.int 1)) (aCons (eC (.int 1)) aNil))) aNil)))) (eC (.int 0)))
(sRet [3] (eTup (aCons (eVar 3) (aCons (eLst aNil) (aCons (eLst aNil) (aCons (eVar 2) aNil)))))))))
theorem B__law_tongue_u (ρ : Env) : B__law_tongue ρ = (sSeq (sOwn 3 [] (eLst aNil))
(sSeq (sFor [] (iRange (aCons (eVar 1) aNil)) (tgN 4)
B__law_tongue_1
[4])
(sSeq (sPutL 3 [] (eTup (aCons (eC (.str "f")) (aCons (eTup (aCons (eC (.int 1)) (aCons (eC (.int 1)) aNil))) (aCons (eTup (aCons (eC (.int 1)) (aCons (eC (.int 1)) aNil))) aNil)))) (eC (.int 0)))
(sRet [3] (eTup (aCons (eVar 3) (aCons (eLst aNil) (aCons (eLst aNil) (aCons (eVar 2) aNil))))))))) ρ := rfl
noncomputable def F__law_tongue : List D → Res (D × D) := runIO (["_law_source_here", "_law_many", "_law_longest"] : List Str).length n__law_tongue.length 0 B__law_tongue
theorem ok__law_tongue {P : Program} {w : World} {K : PySem.W.Frag} {mg : Str → Option Value} {base : Heap} (T : Txt K mg) : OkF P w K mg base CX0 (1 + 1) "_law_tongue" ["_law_source_here", "_law_many", "_law_longest"] (spIO K 0 F__law_tongue) :=
  okIO 0 (g := B__law_tongue) T.f__law_tongue c__law_tongue fun f cdv A outer s H E hr => 
(fss_cons (fs_own (L := []) 3 (fw_lst fa_nil) c__law_tongue.nd)
(fss_cons (fs_for (L := []) [4] PassesOwn.never (fi_range1 T.b_range (fa_cons (fe_var 1) fa_nil) (h1 := len1)) (fg_name 4 c__law_tongue.nd)
(fss_one (fs_appM 3 (me_tup (ma_cons (me_p (L := []) (fe_ix (ix_A (K := K) (u1 hr.units)) opd_ix fe_str (fe_var 4))) (ma_cons (me_p (L := []) (fe_tup (fa_cons fe_int (fa_cons fe_int fa_nil)))) (ma_cons (me_ix (ix_A (K := K) (u1 hr.units)) opd_ix (me_p (L := []) (fe_lst (fa_cons (fe_tup (fa_cons fe_int (fa_cons fe_int fa_nil))) (fa_cons fe_non (fa_cons (fe_tup (fa_cons fe_int (fa_cons fe_int fa_nil))) fa_nil))))) (me_io (ok__law_draw T) hr (mio_here 0 (ma_p (L := []) (fa_cons fe_int fa_nil))))) ma_nil)))))))
(fss_cons (fs_putL (L := []) 3 (fe_tup (fa_cons fe_str (fa_cons (fe_tup (fa_cons fe_int (fa_cons fe_int fa_nil))) (fa_cons (fe_tup (fa_cons fe_int (fa_cons fe_int fa_nil))) fa_nil)))) fe_int)
(fss_one (fs_ret (L := [3]) (fe_tup (fa_cons (fe_var 3) (fa_cons (fe_lst fa_nil) (fa_cons (fe_lst fa_nil) (fa_cons (fe_var 2) fa_nil))))))))))

noncomputable def B__law_parts_1 : Env → Out := (sAsg [] (eOp dAdd (eVar 1) (eComp [3] (iAny (eSl (eC (.str "fedcba")) pNo (pYes (eVar 0)))) (tgN 3) bYes (eTup (aCons (eVar 2) (aCons (eVar 3) (aCons (eTup (aCons (eC (.int 1)) (aCons (eVar 0) aNil))) aNil)))))) (tgN 1))
theorem B__law_parts_1_u (ρ : Env) : B__law_parts_1 ρ = (sAsg [] (eOp dAdd (eVar 1) (eComp [3] (iAny (eSl (eC (.str "fedcba")) pNo (pYes (eVar 0)))) (tgN 3) bYes (eTup (aCons (eVar 2) (aCons (eVar 3) (aCons (eTup (aCons (eC (.int 1)) (aCons (eVar 0) aNil))) aNil)))))) (tgN 1)) ρ := rfl
noncomputable def B__law_parts : Env → Out := (sSeq (sAsg [] (eLst aNil) (tgN 1))
(sSeq (sFor [] (iAny (eOp dAdd (eLst (aCons (eC (.str "")) aNil)) (eComp [3] (iAny (eSl (eC (.str "fedcba")) pNo (pYes (eVar 0)))) (tgN 3) bYes (eVar 3)))) (tgN 2)
B__law_parts_1
[2, 3])
(sRet [] (eVar 1))))
theorem B__law_parts_u (ρ : Env) : B__law_parts ρ = (sSeq (sAsg [] (eLst aNil) (tgN 1))
(sSeq (sFor [] (iAny (eOp dAdd (eLst (aCons (eC (.str "")) aNil)) (eComp [3] (iAny (eSl (eC (.str "fedcba")) pNo (pYes (eVar 0)))) (tgN 3) bYes (eVar 3)))) (tgN 2)
B__law_parts_1
[2, 3])
(sRet [] (eVar 1)))) ρ := rfl
noncomputable def F__law_parts : List D → Res D := runD (["_law_many"] : List Str).length n__law_parts.length B__law_parts
theorem ok__law_parts {P : Program} {w : World} {K : PySem.W.Frag} {mg : Str → Option Value} {base : Heap} (T : Txt K mg) : OkF P w K mg base CX0 (0 + 1) "_law_parts" ["_law_many"] (sp0 K F__law_parts) :=
  ok0 (g := B__law_parts) T.f__law_parts c__law_parts fun f cdv A outer s H E hr => 
(fss_cons (fs_asg (L := []) (fe_lst fa_nil) (fg_name 1 c__law_parts.nd))
(fss_cons (fs_for (L := []) [2, 3] PassesOwn.never (fi_any (fe_op (op_addA K) opd_add (fe_lst (fa_cons fe_str fa_nil)) (fe_comp [("_law_sign", 3)] c__law_parts.nd (fi_any (fe_sl fe_str fo_no (fo_yes (fe_var 0)))) (fun _ _ _ _ _ => (fg_name 3 c__law_parts.nd)) (fun _ _ _ _ _ => fts_nil) (fun _ _ _ _ _ => (fe_var 3)) (blkOk_by (own := [("_law_sign", 3)]) (N := n__law_parts) (sc := defScope s__law_parts) (by decide +kernel))))) (fg_name 2 c__law_parts.nd)
(fss_one (fs_asg (L := []) (fe_op (op_addA K) opd_add (fe_var 1) (fe_comp [("_law_sign", 3)] c__law_parts.nd (fi_any (fe_sl fe_str fo_no (fo_yes (fe_var 0)))) (fun _ _ _ _ _ => (fg_name 3 c__law_parts.nd)) (fun _ _ _ _ _ => fts_nil) (fun _ _ _ _ _ => (fe_tup (fa_cons (fe_var 2) (fa_cons (fe_var 3) (fa_cons (fe_tup (fa_cons fe_int (fa_cons (fe_var 0) fa_nil))) fa_nil))))) (blkOk_by (own := [("_law_sign", 3)]) (N := n__law_parts) (sc := defScope s__law_parts) (by decide +kernel)))) (fg_name 1 c__law_parts.nd))))
(fss_one (fs_ret (L := []) (fe_var 1)))))

noncomputable def B_law_1 : Env → Out := (sAsg [] (eOp dMul (eVar 8) (eVar 2)) (tgN 8))
theorem B_law_1_u (ρ : Env) : B_law_1 ρ = (sAsg [] (eOp dMul (eVar 8) (eVar 2)) (tgN 8)) ρ := rfl
noncomputable def B_law : Env → Out := (sSeq (sOwn 1 [] (eCall F__law_source (aCons (eCall F__law_cell_at (aCons (eVar 0) (aCons (eC (.int 0)) aNil))) (aCons (eC (.int 0)) aNil))))
(sSeq (sAsgM (mIO 0 1 F__law_case (mAP [] aNil)) (tgT [(tgN 2), (tgN 3), (tgN 4), (tgN 5), (tgN 6)]))
(sSeq (sAsgM (mIO 0 1 F__law_tongue (mAP [] (aCons (eVar 2) (aCons (eVar 5) aNil)))) (tgN 7))
(sSeq (sAsg [] (eVar 6) (tgN 8))
(sSeq (sFor [] (iRange (aCons (eOp dSub (eVar 4) (eC (.int 1))) aNil)) (tgN 9)
B_law_1
[9])
(sSeq (sOwn 10 [] (eLst (aCons (eTup (aCons (eC (.str "one")) (aCons (eVar 6) aNil))) (aCons (eTup (aCons (eC (.str "two")) (aCons (eC (.int 0)) aNil))) aNil))))
(sSeq (sOwn 11 [] (eLst (aCons (eTup (aCons (eOp dMul (eVar 6) (eVar 4)) (aCons (eC (.int 1)) aNil))) (aCons (eTup (aCons (eC (.int 0)) (aCons (eC (.int 1)) aNil))) aNil))))
(sSeq (sAsg [] (eOp dLe (eVar 4) (eVar 3)) (tgN 12))
(sSeq (sIfM (mTest (mOp dEq (mIO 0 1 F__law_draw (mAP [] (aCons (eC (.int 4)) aNil))) (mP [] (eC (.int 1)))))
(sSeq (sPutL 11 [] (eTup (aCons (eOp dAdd (eOp dMul (eOp dMul (eVar 6) (eVar 4)) (eOp dPow (eC (.int 10)) (eC (.int 6)))) (eC (.int 1))) (aCons (eOp dPow (eC (.int 10)) (eC (.int 6))) aNil))) (eC (.int 0)))
(sAsg [] (eC (.bl false)) (tgN 12)))
sPass)
(sSeq (sIfM (mTest (mOp dEq (mIO 0 1 F__law_draw (mAP [] (aCons (eC (.int 2)) aNil))) (mP [] (eC (.int 1)))))
(sSeq (sAsg [10] (eSl (eVar 10) pNo (pYes (eC (.int 1)))) (tgN 10))
(sAsg [11] (eSl (eVar 11) pNo (pYes (eC (.int 1)))) (tgN 11)))
sPass)
(sSeq (sAsgM (mAndV (mP [10] (eOp dGt (eCall dLen (aCons (eVar 10) aNil)) (eC (.int 1)))) (mOp dEq (mIO 0 1 F__law_draw (mAP [] (aCons (eC (.int 3)) aNil))) (mP [] (eC (.int 1))))) (tgN 13))
(sSeq (sIf [] (bT (eVar 13))
(sSeq (sPutL 10 [] (eTup (aCons (eC (.str "two")) (aCons (eVar 6) aNil))) (eC (.int 1)))
(sPutL 11 [] (eTup (aCons (eOp dMul (eVar 6) (eVar 4)) (aCons (eC (.int 1)) aNil))) (eC (.int 1))))
sPass)
(sSeq (sAsg [11] (eTup (aCons (eTup (aCons (eVar 8) (aCons (eC (.int 1)) aNil))) (aCons (eCall F__law_parts (aCons (eVar 2) aNil)) (aCons (eVar 11) aNil)))) (tgN 14))
(sSeq (sAsg [10] (eCall F_lets_shares (aCons (eVar 7) (aCons (eVar 10) (aCons (eVar 14) aNil)))) (tgN 15))
(sSeq (sIf [] (bOr (bNot (bT (eIsi "bool" (eVar 15)))) (bT (eOp dNe (eVar 15) (eVar 12))))
(sRet [] (eC (.bl false)))
sPass)
(sSeq (sIf [] (bOr (bT (eOp dGe (eVar 4) (eVar 3))) (bT (eVar 13)))
(sRet [] (eC (.bl true)))
sPass)
(sSeq (sAsg [11] (eTup (aCons (eOp dIx (eVar 14) (eC (.int 0))) (aCons (eUn dRev (eOp dIx (eVar 14) (eC (.int 1)))) (aCons (eUn dRev (eVar 11)) aNil)))) (tgN 16))
(sRet [10] (eOp dEq (eCall F_lets_shares (aCons (eVar 7) (aCons (eUn dRev (eVar 10)) (aCons (eVar 16) aNil)))) (eVar 12))))))))))))))))))))
theorem B_law_u (ρ : Env) : B_law ρ = (sSeq (sOwn 1 [] (eCall F__law_source (aCons (eCall F__law_cell_at (aCons (eVar 0) (aCons (eC (.int 0)) aNil))) (aCons (eC (.int 0)) aNil))))
(sSeq (sAsgM (mIO 0 1 F__law_case (mAP [] aNil)) (tgT [(tgN 2), (tgN 3), (tgN 4), (tgN 5), (tgN 6)]))
(sSeq (sAsgM (mIO 0 1 F__law_tongue (mAP [] (aCons (eVar 2) (aCons (eVar 5) aNil)))) (tgN 7))
(sSeq (sAsg [] (eVar 6) (tgN 8))
(sSeq (sFor [] (iRange (aCons (eOp dSub (eVar 4) (eC (.int 1))) aNil)) (tgN 9)
B_law_1
[9])
(sSeq (sOwn 10 [] (eLst (aCons (eTup (aCons (eC (.str "one")) (aCons (eVar 6) aNil))) (aCons (eTup (aCons (eC (.str "two")) (aCons (eC (.int 0)) aNil))) aNil))))
(sSeq (sOwn 11 [] (eLst (aCons (eTup (aCons (eOp dMul (eVar 6) (eVar 4)) (aCons (eC (.int 1)) aNil))) (aCons (eTup (aCons (eC (.int 0)) (aCons (eC (.int 1)) aNil))) aNil))))
(sSeq (sAsg [] (eOp dLe (eVar 4) (eVar 3)) (tgN 12))
(sSeq (sIfM (mTest (mOp dEq (mIO 0 1 F__law_draw (mAP [] (aCons (eC (.int 4)) aNil))) (mP [] (eC (.int 1)))))
(sSeq (sPutL 11 [] (eTup (aCons (eOp dAdd (eOp dMul (eOp dMul (eVar 6) (eVar 4)) (eOp dPow (eC (.int 10)) (eC (.int 6)))) (eC (.int 1))) (aCons (eOp dPow (eC (.int 10)) (eC (.int 6))) aNil))) (eC (.int 0)))
(sAsg [] (eC (.bl false)) (tgN 12)))
sPass)
(sSeq (sIfM (mTest (mOp dEq (mIO 0 1 F__law_draw (mAP [] (aCons (eC (.int 2)) aNil))) (mP [] (eC (.int 1)))))
(sSeq (sAsg [10] (eSl (eVar 10) pNo (pYes (eC (.int 1)))) (tgN 10))
(sAsg [11] (eSl (eVar 11) pNo (pYes (eC (.int 1)))) (tgN 11)))
sPass)
(sSeq (sAsgM (mAndV (mP [10] (eOp dGt (eCall dLen (aCons (eVar 10) aNil)) (eC (.int 1)))) (mOp dEq (mIO 0 1 F__law_draw (mAP [] (aCons (eC (.int 3)) aNil))) (mP [] (eC (.int 1))))) (tgN 13))
(sSeq (sIf [] (bT (eVar 13))
(sSeq (sPutL 10 [] (eTup (aCons (eC (.str "two")) (aCons (eVar 6) aNil))) (eC (.int 1)))
(sPutL 11 [] (eTup (aCons (eOp dMul (eVar 6) (eVar 4)) (aCons (eC (.int 1)) aNil))) (eC (.int 1))))
sPass)
(sSeq (sAsg [11] (eTup (aCons (eTup (aCons (eVar 8) (aCons (eC (.int 1)) aNil))) (aCons (eCall F__law_parts (aCons (eVar 2) aNil)) (aCons (eVar 11) aNil)))) (tgN 14))
(sSeq (sAsg [10] (eCall F_lets_shares (aCons (eVar 7) (aCons (eVar 10) (aCons (eVar 14) aNil)))) (tgN 15))
(sSeq (sIf [] (bOr (bNot (bT (eIsi "bool" (eVar 15)))) (bT (eOp dNe (eVar 15) (eVar 12))))
(sRet [] (eC (.bl false)))
sPass)
(sSeq (sIf [] (bOr (bT (eOp dGe (eVar 4) (eVar 3))) (bT (eVar 13)))
(sRet [] (eC (.bl true)))
sPass)
(sSeq (sAsg [11] (eTup (aCons (eOp dIx (eVar 14) (eC (.int 0))) (aCons (eUn dRev (eOp dIx (eVar 14) (eC (.int 1)))) (aCons (eUn dRev (eVar 11)) aNil)))) (tgN 16))
(sRet [10] (eOp dEq (eCall F_lets_shares (aCons (eVar 7) (aCons (eUn dRev (eVar 10)) (aCons (eVar 16) aNil)))) (eVar 12)))))))))))))))))))) ρ := rfl
noncomputable def F_law : List D → Res D := runD (["_law_script"] : List Str).length n_law.length B_law
theorem ok_law {P : Program} {w : World} {K : PySem.W.Frag} {mg : Str → Option Value} {base : Heap} (T : Txt K mg) {f : Addr} {fd : FuncData} (F : L2.Fun K "law" "law" s_law f fd) : FnOk P w K mg base CX0 (9 + 1) f fd ["_law_script"] (sp0 K F_law) :=
  okL (g := B_law) F c_law fun f cdv A outer s H E hr => 
(fss_cons (fs_own (L := []) 1 (fw_call (ok__law_source T) hr (fa_cons (fe_call (ok__law_cell_at T) hr (fa_cons (fe_var 0) (fa_cons fe_int fa_nil))) (fa_cons fe_int fa_nil))) c_law.nd)
(fss_cons (fs_asgM (me_io (ok__law_case T) hr (mio_here 1 (ma_p (L := []) fa_nil))) (fg_tup (fgs_cons (fg_name 2 c_law.nd) (fgs_cons (fg_name 3 c_law.nd) (fgs_cons (fg_name 4 c_law.nd) (fgs_cons (fg_name 5 c_law.nd) (fgs_cons (fg_name 6 c_law.nd) fgs_nil)))))))
(fss_cons (fs_asgM (me_io (ok__law_tongue T) hr (mio_here 1 (ma_p (L := []) (fa_cons (fe_var 2) (fa_cons (fe_var 5) fa_nil))))) (fg_name 7 c_law.nd))
(fss_cons (fs_asg (L := []) (fe_var 6) (fg_name 8 c_law.nd))
(fss_cons (fs_for (L := []) [9] PassesOwn.never (fi_range1 T.b_range (fa_cons (fe_op op_sub opd_sub (fe_var 4) fe_int) fa_nil) (h1 := len1)) (fg_name 9 c_law.nd)
(fss_one (fs_asg (L := []) (fe_op op_mulA opd_mul (fe_var 8) (fe_var 2)) (fg_name 8 c_law.nd))))
(fss_cons (fs_own (L := []) 10 (fw_lst (fa_cons (fe_tup (fa_cons fe_str (fa_cons (fe_var 6) fa_nil))) (fa_cons (fe_tup (fa_cons fe_str (fa_cons fe_int fa_nil))) fa_nil))) c_law.nd)
(fss_cons (fs_own (L := []) 11 (fw_lst (fa_cons (fe_tup (fa_cons (fe_op op_mulA opd_mul (fe_var 6) (fe_var 4)) (fa_cons fe_int fa_nil))) (fa_cons (fe_tup (fa_cons fe_int (fa_cons fe_int fa_nil))) fa_nil))) c_law.nd)
(fss_cons (fs_asg (L := []) (fe_cmp op_le opd_le (fe_var 4) (fe_var 3)) (fg_name 12 c_law.nd))
(fss_cons (fs_ifM (mt_cmp (op_eqA (K := K) hr.units) opd_eq (me_io (ok__law_draw T) hr (mio_here 1 (ma_p (L := []) (fa_cons fe_int fa_nil)))) (me_p (L := []) fe_int))
(fss_cons (fs_putL (L := []) 11 (fe_tup (fa_cons (fe_op (op_addA K) opd_add (fe_op op_mulA opd_mul (fe_op op_mulA opd_mul (fe_var 6) (fe_var 4)) (fe_op op_pow opd_pow fe_int fe_int)) fe_int) (fa_cons (fe_op op_pow opd_pow fe_int fe_int) fa_nil))) fe_int)
(fss_one (fs_asg (L := []) fe_bl (fg_name 12 c_law.nd))))
fss_nil)
(fss_cons (fs_ifM (mt_cmp (op_eqA (K := K) hr.units) opd_eq (me_io (ok__law_draw T) hr (mio_here 1 (ma_p (L := []) (fa_cons fe_int fa_nil)))) (me_p (L := []) fe_int))
(fss_cons (fs_asg (L := [10]) (fe_sl (fe_var 10) fo_no (fo_yes fe_int)) (fg_name 10 c_law.nd))
(fss_one (fs_asg (L := [11]) (fe_sl (fe_var 11) fo_no (fo_yes fe_int)) (fg_name 11 c_law.nd))))
fss_nil)
(fss_cons (fs_asgM (me_and (me_p (L := [10]) (fe_cmp op_gt opd_gt (fe_callB (cr_len (K := K)) cd_len T.b_len (fa_cons (fe_var 10) fa_nil)) fe_int)) (me_one (me_cmp (op_eqA (K := K) hr.units) opd_eq (me_io (ok__law_draw T) hr (mio_here 1 (ma_p (L := []) (fa_cons fe_int fa_nil)))) (me_p (L := []) fe_int)))) (fg_name 13 c_law.nd))
(fss_cons (fs_if (L := []) (ft_tru (fe_var 13))
(fss_cons (fs_putL (L := []) 10 (fe_tup (fa_cons fe_str (fa_cons (fe_var 6) fa_nil))) fe_int)
(fss_one (fs_putL (L := []) 11 (fe_tup (fa_cons (fe_op op_mulA opd_mul (fe_var 6) (fe_var 4)) (fa_cons fe_int fa_nil))) fe_int)))
fss_nil)
(fss_cons (fs_asg (L := [11]) (fe_tup (fa_cons (fe_tup (fa_cons (fe_var 8) (fa_cons fe_int fa_nil))) (fa_cons (fe_call (ok__law_parts T) hr (fa_cons (fe_var 2) fa_nil)) (fa_cons (fe_var 11) fa_nil)))) (fg_name 14 c_law.nd))
(fss_cons (fs_asg (L := [10]) (fe_call (ok_lets_shares T) hr (fa_cons (fe_var 7) (fa_cons (fe_var 10) (fa_cons (fe_var 14) fa_nil)))) (fg_name 15 c_law.nd))
(fss_cons (fs_if (L := []) (ft_w (fw_or (ft_not (ft_tru (fe_isi (t := "bool") tn_bool (fe_var 15) (pe_bltn (v := .ty "bool") (by rfl) T.b_bool (by decide +kernel) rfl) T.b_isinstance))) (fw_or1 (ft_cmp (op_neA (K := K) hr.units) opd_ne gb_ne (fe_var 15) (fe_var 12)))))
(fss_one (fs_ret (L := []) fe_bl))
fss_nil)
(fss_cons (fs_if (L := []) (ft_w (fw_or (ft_cmp op_ge opd_ge gb_cmp (fe_var 4) (fe_var 3)) (fw_or1 (ft_tru (fe_var 13)))))
(fss_one (fs_ret (L := []) fe_bl))
fss_nil)
(fss_cons (fs_asg (L := [11]) (fe_tup (fa_cons (fe_ix (ix_A (K := K) (u1 hr.units)) opd_ix (fe_var 14) fe_int) (fa_cons (fe_w (fw_rev (fe_ix (ix_A (K := K) (u1 hr.units)) opd_ix (fe_var 14) fe_int))) (fa_cons (fe_w (fw_rev (fe_var 11))) fa_nil)))) (fg_name 16 c_law.nd))
(fss_one (fs_ret (L := [10]) (fe_cmp (op_eqA (K := K) hr.units) opd_eq (fe_call (ok_lets_shares T) hr (fa_cons (fe_var 7) (fa_cons (fe_w (fw_rev (fe_var 10))) (fa_cons (fe_var 16) fa_nil)))) (fe_var 12)))))))))))))))))))))

end Du

namespace Du
open PySem PySem.Spec PyProof.Rows L2
/-! ### the functions, reckoned step by step: what is not known yet is not opened -/
section
variable {α β : Type} {g h : Env → Out} {ρ ρx : Env} {L : List Nat}
def seqK (h : Env → Out) : Out → Out
  | .nx ρ => h ρ
  | .bk ρ => .bk ρ
  | .ct ρ => .ct ρ
  | .rt d ρ => .rt d ρ
  | .ro d ρ => .ro d ρ
  | .ex x ρ => .ex x ρ
  | .bad => .bad
@[simp] theorem sSeq_e : sSeq g h ρ = seqK h (g ρ) := by unfold sSeq; cases g ρ <;> rfl
@[simp] theorem seqK_nx : seqK h (.nx ρ) = h ρ := id rfl
@[simp] theorem seqK_bk : seqK h (.bk ρ) = .bk ρ := id rfl
@[simp] theorem seqK_ct : seqK h (.ct ρ) = .ct ρ := id rfl
@[simp] theorem seqK_rt {d : D} : seqK h (.rt d ρ) = .rt d ρ := id rfl
@[simp] theorem seqK_ro {d : D} : seqK h (.ro d ρ) = .ro d ρ := id rfl
@[simp] theorem seqK_ex {x : Ex} : seqK h (.ex x ρ) = .ex x ρ := id rfl
@[simp] theorem seqK_bad : seqK h .bad = .bad := id rfl
def atR (k : α → Out) (ρx : Env) : Res α → Out
  | .ok a => k a
  | .exc x => .ex x ρx
  | .bad => .bad
@[simp] theorem atR_ok {k : α → Out} {a : α} : atR k ρx (.ok a) = k a := id rfl
@[simp] theorem atR_exc {k : α → Out} {x : Ex} : atR k ρx (.exc x) = .ex x ρx := id rfl
@[simp] theorem atR_bad {k : α → Out} : atR k ρx .bad = .bad := id rfl
theorem eAt_e {f : VEnv → Res α} {k : α → Out} : eAt L f ρ k = atR k (shut L ρ) (f (view L ρ)) := by unfold eAt atR; cases f (view L ρ) <;> rfl
def bd (f : α → Res β) : Res α → Res β
  | .ok a => f a
  | .exc x => .exc x
  | .bad => .bad
@[simp] theorem bd_ok {f : α → Res β} {a : α} : bd f (.ok a) = f a := id rfl
@[simp] theorem bd_exc {f : α → Res β} {x : Ex} : bd f (.exc x) = .exc x := id rfl
@[simp] theorem bd_bad {f : α → Res β} : bd f .bad = .bad := id rfl
/-! slots -/
@[simp] theorem view_e : view L ρ = viewI L 0 ρ := id rfl
@[simp] theorem viewI_nil {n : Nat} : viewI L n [] = [] := id rfl
@[simp] theorem viewI_none {n : Nat} : viewI L n (none :: ρ) = none :: viewI L (n + 1) ρ := id rfl
@[simp] theorem viewI_frz {n : Nat} {d : D} : viewI L n (some (.frz d) :: ρ) = some d :: viewI L (n + 1) ρ := id rfl
@[simp] theorem viewI_own {n : Nat} {t : Bool} {d : D} : viewI L n (some (.own t d) :: ρ) = (if L.contains n = true then some d else none) :: viewI L (n + 1) ρ := id rfl
@[simp] theorem shut_e : shut L ρ = shutI L 0 ρ := id rfl
@[simp] theorem shutI_nil {n : Nat} : shutI L n [] = [] := id rfl
@[simp] theorem shutI_none {n : Nat} : shutI L n (none :: ρ) = none :: shutI L (n + 1) ρ := id rfl
@[simp] theorem shutI_frz {n : Nat} {d : D} : shutI L n (some (.frz d) :: ρ) = some (.frz d) :: shutI L (n + 1) ρ := id rfl
@[simp] theorem shutI_own {n : Nat} {t : Bool} {d : D} : shutI L n (some (.own t d) :: ρ) = (if L.contains n = true then some (.frz d) else some (.own t d)) :: shutI L (n + 1) ρ := id rfl
@[simp] theorem aft_e {d : D} : aft L d ρ = if imm d = true then ρ else shut L ρ := id rfl
@[simp] theorem aftL_e {ds : List D} : aftL L ds ρ = if imms ds = true then ρ else shut L ρ := id rfl
@[simp] theorem aftO_e {d : D} : aftO L d ρ = if immO d = true then ρ else shut L ρ := id rfl
@[simp] theorem imm_non : imm .non = true := id rfl
@[simp] theorem imm_bl {b : Bool} : imm (.bl b) = true := id rfl
@[simp] theorem imm_int {i : Int} : imm (.int i) = true := id rfl
@[simp] theorem imm_str {z : Str} : imm (.str z) = true := id rfl
@[simp] theorem imm_lst {ds : List D} : imm (.lst ds) = false := id rfl
@[simp] theorem imm_scr {ds : List Int} : imm (.scr ds) = false := id rfl
@[simp] theorem imm_dct {t : Bool} {ds : List (D × D)} : imm (.dct t ds) = false := id rfl
@[simp] theorem imm_tup {ds : List D} : imm (.tup ds) = imms ds := id rfl
@[simp] theorem imms_nil : imms [] = true := id rfl
@[simp] theorem imms_cons {d : D} {ds : List D} : imms (d :: ds) = (imm d && imms ds) := id rfl
@[simp] theorem immO_lst {ds : List D} : immO (.lst ds) = imms ds := id rfl
@[simp] theorem immO_dct {t : Bool} {ds : List (D × D)} : immO (.dct t ds) = imms (ds.map (·.2)) := id rfl
@[simp] theorem setS_nil : setS ρ [] = ρ := id rfl
@[simp] theorem setS_cons {p : Nat × D} {ps : List (Nat × D)} : setS ρ (p :: ps) = setS (ρ.set p.1 (some (.frz p.2))) ps := id rfl
@[simp] theorem clr_nil : clr [] ρ = ρ := id rfl
@[simp] theorem clr_cons {i : Nat} {l : List Nat} : clr (i :: l) ρ = clr l (ρ.set i none) := id rfl
@[simp] theorem setAllD_nil {ρ : VEnv} : setAllD ρ [] = ρ := id rfl
@[simp] theorem setAllD_cons {ρ : VEnv} {p : Nat × D} {ps : List (Nat × D)} : setAllD ρ (p :: ps) = setAllD (ρ.set p.1 (some p.2)) ps := id rfl
@[simp] theorem wipeD_nil {ρ : VEnv} : wipeD ρ [] = ρ := id rfl
@[simp] theorem wipeD_cons {ρ : VEnv} {v : Nat} {vs : List Nat} : wipeD ρ (v :: vs) = (wipeD ρ vs).set v none := id rfl
@[simp] theorem wipeS_nil : wipeS ρ [] = ρ := id rfl
@[simp] theorem wipeS_cons {v : Nat} {vs : List Nat} : wipeS ρ (v :: vs) = (wipeS ρ vs).set v none := id rfl
@[simp] theorem tgN_e {i : Nat} {d : D} : tgN i d = .ok [(i, d)] := id rfl
@[simp] theorem tgT_e {ts : List Tgt} {ds : List D} : tgT ts (.tup ds) = tgL ts ds := id rfl
@[simp] theorem tgL_nil : tgL [] [] = .ok [] := id rfl
def tgC (ts : List Tgt) (ds : List D) (a : List (Nat × D)) : Res (List (Nat × D)) := (tgL ts ds).bind fun b => .ok (a ++ b)
@[simp] theorem tgL_cons {t : Tgt} {ts : List Tgt} {d : D} {ds : List D} : tgL (t :: ts) (d :: ds) = bd (tgC ts ds) (t d) := id rfl
def appC' (a : List (Nat × D)) (b : List (Nat × D)) : Res (List (Nat × D)) := .ok (a ++ b)
@[simp] theorem appC'_e {a b : List (Nat × D)} : appC' a b = .ok (a ++ b) := id rfl
@[simp] theorem tgC_e {ts : List Tgt} {ds : List D} {a : List (Nat × D)} : tgC ts ds a = bd (appC' a) (tgL ts ds) := id rfl
/-! statements -/
def ifC (g h : Env → Out) (ρ : Env) (b : Bool) : Out := if b = true then g ρ else h ρ
@[simp] theorem sIf_e {c : VEnv → Res Bool} : sIf L c g h ρ = atR (ifC g h ρ) (shut L ρ) (c (view L ρ)) := eAt_e
@[simp] theorem ifC_t : ifC g h ρ true = g ρ := id rfl
@[simp] theorem ifC_f : ifC g h ρ false = h ρ := id rfl
@[simp] theorem sPass_e : sPass ρ = .nx ρ := id rfl
@[simp] theorem sRetN_e : sRetN ρ = .rt .non ρ := id rfl
@[simp] theorem sBreak_e : sBreak ρ = .bk ρ := id rfl
@[simp] theorem sCont_e : sCont ρ = .ct ρ := id rfl
@[simp] theorem sRaise_e {x : Ex} : sRaise x ρ = .ex x ρ := id rfl
def asgD (ρ : Env) : Res (List (Nat × D)) → Out
  | .ok as => .nx (setS ρ as)
  | _ => .bad
@[simp] theorem asgD_ok {as : List (Nat × D)} : asgD ρ (.ok as) = .nx (setS ρ as) := id rfl
def asgC (L : List Nat) (ρ : Env) (tg : Tgt) (d : D) : Out := asgD (aft L d ρ) (tg d)
@[simp] theorem asgC_e {tg : Tgt} {d : D} : asgC L ρ tg d = asgD (aft L d ρ) (tg d) := id rfl
@[simp] theorem sAsg_e {f : VEnv → Res D} {tg : Tgt} : sAsg L f tg ρ = atR (asgC L ρ tg) (shut L ρ) (f (view L ρ)) := eAt_e
def exprC (L : List Nat) (ρ : Env) (d : D) : Out := .nx (aft L d ρ)
@[simp] theorem exprC_e {d : D} : exprC L ρ d = .nx (aft L d ρ) := id rfl
@[simp] theorem sExpr_e {f : VEnv → Res D} : sExpr L f ρ = atR (exprC L ρ) (shut L ρ) (f (view L ρ)) := eAt_e
def retC (L : List Nat) (ρ : Env) (d : D) : Out := .rt d (aft L d ρ)
@[simp] theorem retC_e {d : D} : retC L ρ d = .rt d (aft L d ρ) := id rfl
@[simp] theorem sRet_e {f : VEnv → Res D} : sRet L f ρ = atR (retC L ρ) (shut L ρ) (f (view L ρ)) := eAt_e
def retOC (L : List Nat) (ρ : Env) (d : D) : Out := .ro d (aftO L d ρ)
@[simp] theorem retOC_e {d : D} : retOC L ρ d = .ro d (aftO L d ρ) := id rfl
@[simp] theorem sRetO_e {f : VEnv → Res D} : sRetO L f ρ = atR (retOC L ρ) (shut L ρ) (f (view L ρ)) := eAt_e
def retSC (ρ : Env) (i : Nat) : Option (Option Slot) → Out
  | some (some (.own _ d)) => .ro d (ρ.set i none)
  | _ => .bad
@[simp] theorem retSC_e {i : Nat} {t : Bool} {d : D} : retSC ρ i (some (some (.own t d))) = .ro d (ρ.set i none) := id rfl
@[simp] theorem sRetS_e {i : Nat} : sRetS i ρ = retSC ρ i (ρ[i]?) := id rfl
def ownC (i : Nat) (L : List Nat) (ρ : Env) (d : D) : Out := .nx ((aftO L d ρ).set i (some (.own false d)))
@[simp] theorem ownC_e {i : Nat} {d : D} : ownC i L ρ d = .nx ((aftO L d ρ).set i (some (.own false d))) := id rfl
@[simp] theorem sOwn_e {i : Nat} {f : VEnv → Res D} : sOwn i L f ρ = atR (ownC i L ρ) (shut L ρ) (f (view L ρ)) := eAt_e
def parC (i j : Nat) (L : List Nat) (ρ : Env) : List D → Out
  | [a, b] => .nx (((aftL L [a, b] ρ).set i (some (.frz a))).set j (some (.frz b)))
  | _ => .bad
@[simp] theorem parC_e {i j : Nat} {a b : D} : parC i j L ρ [a, b] = .nx (((aftL L [a, b] ρ).set i (some (.frz a))).set j (some (.frz b))) := id rfl
@[simp] theorem sPar_e {i j : Nat} {f : VEnv → Res (List D)} : sPar i j L f ρ = atR (parC i j L ρ) (shut L ρ) (f (view L ρ)) := by
  unfold sPar
  rw [eAt_e]
  congr 1
  funext as
  rcases as with _ | ⟨a, _ | ⟨b, _ | _⟩⟩ <;> rfl
def ownLC : Option (Option Slot) → Option (Bool × List D)
  | some (some (.own t (.lst ds))) => some (t, ds)
  | _ => none
@[simp] theorem ownL_e {i : Nat} : ownL ρ i = ownLC (ρ[i]?) := id rfl
@[simp] theorem ownLC_e {t : Bool} {ds : List D} : ownLC (some (some (.own t (.lst ds)))) = some (t, ds) := id rfl
def ownSC : Option (Option Slot) → Option (Bool × D)
  | some (some (.own t o)) => some (t, o)
  | _ => none
@[simp] theorem ownS_e {i : Nat} : ownS ρ i = ownSC (ρ[i]?) := id rfl
@[simp] theorem ownSC_e {t : Bool} {d : D} : ownSC (some (some (.own t d))) = some (t, d) := id rfl
def needC (g : Env → Out) (ρ : Env) : Option (Bool × List D) → Out
  | some _ => g ρ
  | none => .bad
@[simp] theorem need_e {i : Nat} : need i g ρ = needC g ρ (ownL ρ i) := id rfl
@[simp] theorem needC_e {x : Bool × List D} : needC g ρ (some x) = g ρ := id rfl
def chgT (ρ : Env) (i : Nat) (t : Bool) : Option (List D) → Out
  | some es => .nx (ρ.set i (some (.own t (.lst es))))
  | none => .bad
@[simp] theorem chgT_e {i : Nat} {t : Bool} {es : List D} : chgT ρ i t (some es) = .nx (ρ.set i (some (.own t (.lst es)))) := id rfl
def chgC (ρ : Env) (i : Nat) (f : List D → Option (List D)) : Option (Bool × List D) → Out
  | some (t, ds) => chgT ρ i t (f ds)
  | none => .bad
@[simp] theorem chgC_e {i : Nat} {f : List D → Option (List D)} {t : Bool} {ds : List D} : chgC ρ i f (some (t, ds)) = chgT ρ i t (f ds) := id rfl
@[simp] theorem chg_e {i : Nat} {f : List D → Option (List D)} : chg ρ i f = chgC ρ i f (ownL ρ i) := id rfl
def appF (d : D) (ds : List D) : Option (List D) := if fit ds.length = true then some (ds ++ [d]) else none
@[simp] theorem appF_e {d : D} {ds : List D} (h : ds.length ≤ 16777215) : appF d ds = some (ds ++ [d]) := if_pos (fit_of h)
def appC (i : Nat) (L : List Nat) (ρ : Env) (d : D) : Out := chg (aft L d ρ) i (appF d)
@[simp] theorem appC_e {i : Nat} {d : D} : appC i L ρ d = chg (aft L d ρ) i (appF d) := id rfl
@[simp] theorem sApp_e {i : Nat} {f : VEnv → Res D} : sApp i L f ρ = atR (appC i L ρ) (shut L ρ) (f (view L ρ)) := eAt_e
def putF (n : Int) (d : D) (ds : List D) : Option (List D) := match ixN ds.length n with
  | some j => some (ds.set j d)
  | none => none
@[simp] theorem putF_0 {d e : D} {ds : List D} : putF 0 d (e :: ds) = some (d :: ds) := by simp [putF, ixN]
@[simp] theorem putF_1 {d e e2 : D} {ds : List D} : putF 1 d (e :: e2 :: ds) = some (e :: d :: ds) := by
  unfold putF ixN
  rw [if_pos (by decide), if_pos (by simp only [List.length_cons]; omega)]
  rfl
def putE (i : Nat) (ρ : Env) (d : D) : D → Out
  | .int n => chg ρ i (putF n d)
  | _ => .bad
@[simp] theorem putE_e {i : Nat} {d : D} {n : Int} : putE i ρ d (.int n) = chg ρ i (putF n d) := id rfl
def putD' (i : Nat) (fk : VEnv → Res D) (d : D) (ρ : Env) : Out := atR (putE i ρ d) (shut [] ρ) (fk (view [] ρ))
@[simp] theorem putD'_e {i : Nat} {fk : VEnv → Res D} {d : D} : putD' i fk d ρ = atR (putE i ρ d) (shut [] ρ) (fk (view [] ρ)) := id rfl
def putC (i : Nat) (L : List Nat) (ρ : Env) (fk : VEnv → Res D) (d : D) : Out := need i (putD' i fk d) (aft L d ρ)
@[simp] theorem putC_e {i : Nat} {fk : VEnv → Res D} {d : D} : putC i L ρ fk d = need i (putD' i fk d) (aft L d ρ) := id rfl
@[simp] theorem sPutL_e {i : Nat} {fv fk : VEnv → Res D} : sPutL i L fv fk ρ = atR (putC i L ρ fk) (shut L ρ) (fv (view L ρ)) := by
  unfold sPutL
  rw [eAt_e]
  congr 1
/-! expressions -/
def varC : Option (Option D) → Res D
  | some (some d) => .ok d
  | _ => .bad
@[simp] theorem eVar_e {i : Nat} {ρ : VEnv} : eVar i ρ = varC (ρ[i]?) := id rfl
@[simp] theorem varC_e {d : D} : varC (some (some d)) = .ok d := id rfl
@[simp] theorem eC_e {d : D} {ρ : VEnv} : eC d ρ = .ok d := id rfl
def op2 (g : D → D → Res D) : Res D → Res D → Res D
  | .ok a, .ok b => g a b
  | .ok _, .exc x => .exc x
  | .exc x, _ => .exc x
  | _, _ => .bad
@[simp] theorem op2_ok {g : D → D → Res D} {a b : D} : op2 g (.ok a) (.ok b) = g a b := id rfl
@[simp] theorem eOp_e {g : D → D → Res D} {fa fb : VEnv → Res D} {ρ : VEnv} : eOp g fa fb ρ = op2 g (fa ρ) (fb ρ) := by unfold eOp; cases fa ρ <;> cases fb ρ <;> rfl
@[simp] theorem eUn_e {g : D → Res D} {fa : VEnv → Res D} {ρ : VEnv} : eUn g fa ρ = bd g (fa ρ) := id rfl
@[simp] theorem eCall_e {g : List D → Res D} {fa : VEnv → Res (List D)} {ρ : VEnv} : eCall g fa ρ = bd g (fa ρ) := id rfl
@[simp] theorem aNil_e {ρ : VEnv} : aNil ρ = .ok [] := id rfl
def cons2 : Res D → Res (List D) → Res (List D)
  | .ok a, .ok as => .ok (a :: as)
  | .ok _, .exc x => .exc x
  | .exc x, _ => .exc x
  | _, _ => .bad
@[simp] theorem cons2_ok {a : D} {as : List D} : cons2 (.ok a) (.ok as) = .ok (a :: as) := id rfl
@[simp] theorem aCons_e {f : VEnv → Res D} {g : VEnv → Res (List D)} {ρ : VEnv} : aCons f g ρ = cons2 (f ρ) (g ρ) := by unfold aCons; cases f ρ <;> cases g ρ <;> rfl
@[simp] theorem fit_e {n : Nat} (h : n ≤ 16777215) : fit n = true := fit_of h
def tupC (as : List D) : Res D := if fit as.length = true then .ok (.tup as) else .bad
@[simp] theorem tupC_e {as : List D} (h : as.length ≤ 16777215) : tupC as = .ok (.tup as) := if_pos (fit_of h)
@[simp] theorem eTup_e {f : VEnv → Res (List D)} {ρ : VEnv} : eTup f ρ = bd tupC (f ρ) := id rfl
def lstC (as : List D) : Res D := if fit as.length = true then .ok (.lst as) else .bad
@[simp] theorem lstC_e {as : List D} (h : as.length ≤ 16777215) : lstC as = .ok (.lst as) := if_pos (fit_of h)
@[simp] theorem eLst_e {f : VEnv → Res (List D)} {ρ : VEnv} : eLst f ρ = bd lstC (f ρ) := id rfl
def andC (g : VEnv → Res D) (ρ : VEnv) (a : D) (b : Bool) : Res D := if b = true then g ρ else .ok a
@[simp] theorem andC_t {g : VEnv → Res D} {ρ : VEnv} {a : D} : andC g ρ a true = g ρ := id rfl
@[simp] theorem andC_f {g : VEnv → Res D} {ρ : VEnv} {a : D} : andC g ρ a false = .ok a := id rfl
def andK (g : VEnv → Res D) (ρ : VEnv) (a : D) : Res D := bd (andC g ρ a) (dTru a)
@[simp] theorem andK_e {g : VEnv → Res D} {ρ : VEnv} {a : D} : andK g ρ a = bd (andC g ρ a) (dTru a) := id rfl
@[simp] theorem eAnd_e {f g : VEnv → Res D} {ρ : VEnv} : eAnd f g ρ = bd (andK g ρ) (f ρ) := id rfl
def orC (g : VEnv → Res D) (ρ : VEnv) (a : D) (b : Bool) : Res D := if b = true then .ok a else g ρ
@[simp] theorem orC_t {g : VEnv → Res D} {ρ : VEnv} {a : D} : orC g ρ a true = .ok a := id rfl
@[simp] theorem orC_f {g : VEnv → Res D} {ρ : VEnv} {a : D} : orC g ρ a false = g ρ := id rfl
def orK (g : VEnv → Res D) (ρ : VEnv) (a : D) : Res D := bd (orC g ρ a) (dTru a)
@[simp] theorem orK_e {g : VEnv → Res D} {ρ : VEnv} {a : D} : orK g ρ a = bd (orC g ρ a) (dTru a) := id rfl
@[simp] theorem eOr_e {f g : VEnv → Res D} {ρ : VEnv} : eOr f g ρ = bd (orK g ρ) (f ρ) := id rfl
def notC (b : Bool) : Res D := .ok (.bl (!b))
@[simp] theorem notC_e {b : Bool} : notC b = .ok (.bl (!b)) := id rfl
def notK (a : D) : Res D := bd notC (dTru a)
@[simp] theorem notK_e {a : D} : notK a = bd notC (dTru a) := id rfl
@[simp] theorem eNot_e {f : VEnv → Res D} {ρ : VEnv} : eNot f ρ = bd notK (f ρ) := id rfl
@[simp] theorem bT_e {f : VEnv → Res D} {ρ : VEnv} : bT f ρ = bd dTru (f ρ) := id rfl
def bnotC (b : Bool) : Res Bool := .ok (!b)
@[simp] theorem bnotC_e {b : Bool} : bnotC b = .ok (!b) := id rfl
@[simp] theorem bNot_e {f : VEnv → Res Bool} {ρ : VEnv} : bNot f ρ = bd bnotC (f ρ) := id rfl
def bandC (g : VEnv → Res Bool) (ρ : VEnv) (b : Bool) : Res Bool := if b = true then g ρ else .ok false
@[simp] theorem bandC_t {g : VEnv → Res Bool} {ρ : VEnv} : bandC g ρ true = g ρ := id rfl
@[simp] theorem bandC_f {g : VEnv → Res Bool} {ρ : VEnv} : bandC g ρ false = .ok false := id rfl
@[simp] theorem bAnd_e {f g : VEnv → Res Bool} {ρ : VEnv} : bAnd f g ρ = bd (bandC g ρ) (f ρ) := id rfl
def borC (g : VEnv → Res Bool) (ρ : VEnv) (b : Bool) : Res Bool := if b = true then .ok true else g ρ
@[simp] theorem borC_t {g : VEnv → Res Bool} {ρ : VEnv} : borC g ρ true = .ok true := id rfl
@[simp] theorem borC_f {g : VEnv → Res Bool} {ρ : VEnv} : borC g ρ false = g ρ := id rfl
@[simp] theorem bOr_e {f g : VEnv → Res Bool} {ρ : VEnv} : bOr f g ρ = bd (borC g ρ) (f ρ) := id rfl
@[simp] theorem bYes_e {ρ : VEnv} : bYes ρ = .ok true := id rfl
def eifC (f g : VEnv → Res D) (ρ : VEnv) (b : Bool) : Res D := if b = true then f ρ else g ρ
@[simp] theorem eifC_t {f g : VEnv → Res D} {ρ : VEnv} : eifC f g ρ true = f ρ := id rfl
@[simp] theorem eifC_f {f g : VEnv → Res D} {ρ : VEnv} : eifC f g ρ false = g ρ := id rfl
@[simp] theorem eIf_e {c : VEnv → Res Bool} {f g : VEnv → Res D} {ρ : VEnv} : eIf c f g ρ = bd (eifC f g ρ) (c ρ) := id rfl
@[simp] theorem dBl_e {b : Bool} : dBl (.bl b) = .ok b := id rfl
def chE (g' : D → D → Res D) (fc : VEnv → Res D) (ρ : VEnv) (b : D) (k : Bool) : Res D := if k = true then bd (g' b) (fc ρ) else .ok (.bl false)
@[simp] theorem chE_t {g' : D → D → Res D} {fc : VEnv → Res D} {ρ : VEnv} {b : D} : chE g' fc ρ b true = bd (g' b) (fc ρ) := id rfl
@[simp] theorem chE_f {g' : D → D → Res D} {fc : VEnv → Res D} {ρ : VEnv} {b : D} : chE g' fc ρ b false = .ok (.bl false) := id rfl
def chB (g g' : D → D → Res D) (fc : VEnv → Res D) (ρ : VEnv) (a b : D) : Res D := bd (chE g' fc ρ b) (bd dBl (g a b))
@[simp] theorem chB_e {g g' : D → D → Res D} {fc : VEnv → Res D} {ρ : VEnv} {a b : D} : chB g g' fc ρ a b = bd (chE g' fc ρ b) (bd dBl (g a b)) := id rfl
@[simp] theorem eChain_e {g g' : D → D → Res D} {fa fb fc : VEnv → Res D} {ρ : VEnv} : eChain g g' fa fb fc ρ = op2 (chB g g' fc ρ) (fa ρ) (fb ρ) := by
  unfold eChain
  cases fa ρ with
  | ok a =>
    cases fb ρ with
    | ok b =>
      show (g a b).bind _ = bd _ (bd dBl (g a b))
      cases g a b with
      | ok z =>
        show (dBl z).bind _ = bd _ (dBl z)
        cases dBl z <;> rfl
      | exc x => rfl
      | bad => rfl
    | exc x => rfl
    | bad => rfl
  | exc x => rfl
  | bad => rfl
@[simp] theorem eIsi_e {t : String} {f : VEnv → Res D} {ρ : VEnv} : eIsi t f ρ = bd (isKind t) (f ρ) := id rfl
@[simp] theorem isK_non {t : String} : isKind t .non = .ok (.bl ("NoneType" == t || ("NoneType" == "bool" && t == "int"))) := id rfl
@[simp] theorem isK_bl {t : String} {b : Bool} : isKind t (.bl b) = .ok (.bl ("bool" == t || ("bool" == "bool" && t == "int"))) := id rfl
@[simp] theorem isK_int {t : String} {b : Int} : isKind t (.int b) = .ok (.bl ("int" == t || ("int" == "bool" && t == "int"))) := id rfl
@[simp] theorem isK_str {t : String} {b : Str} : isKind t (.str b) = .ok (.bl ("str" == t || ("str" == "bool" && t == "int"))) := id rfl
@[simp] theorem isK_lst {t : String} {b : List D} : isKind t (.lst b) = .ok (.bl ("list" == t || ("list" == "bool" && t == "int"))) := id rfl
@[simp] theorem isK_tup {t : String} {b : List D} : isKind t (.tup b) = .ok (.bl ("tuple" == t || ("tuple" == "bool" && t == "int"))) := id rfl
@[simp] theorem isK_dct {t : String} {k : Bool} {b : List (D × D)} : isKind t (.dct k b) = .ok (.bl ("dict" == t || ("dict" == "bool" && t == "int"))) := id rfl
@[simp] theorem dTru_non : dTru .non = .ok false := id rfl
@[simp] theorem dTru_bl {b : Bool} : dTru (.bl b) = .ok b := id rfl
@[simp] theorem dTru_int {i : Int} : dTru (.int i) = .ok (i != 0) := id rfl
@[simp] theorem dTru_lst {ds : List D} : dTru (.lst ds) = .ok (!ds.isEmpty) := id rfl
@[simp] theorem dTru_tup {ds : List D} : dTru (.tup ds) = .ok (!ds.isEmpty) := id rfl
/-! operations -/
@[simp] theorem dAdd_int {a b : Int} : dAdd (.int a) (.int b) = .ok (.int (a + b)) := id rfl
@[simp] theorem dAdd_str {a b : Str} (h : a.length + b.length ≤ 16777215) : dAdd (.str a) (.str b) = .ok (.str (a ++ b)) := if_pos (fit_of h)
@[simp] theorem dAdd_lst {a b : List D} (h : a.length + b.length ≤ 16777215) : dAdd (.lst a) (.lst b) = .ok (.lst (a ++ b)) := if_pos (fit_of h)
@[simp] theorem dCat_lst {a b : List D} (h : a.length + b.length ≤ 16777215) : dCat (.lst a) (.lst b) = .ok (.lst (a ++ b)) := if_pos (fit_of h)
@[simp] theorem dSub_int {a b : Int} : dSub (.int a) (.int b) = .ok (.int (a - b)) := id rfl
@[simp] theorem dMul_int {a b : Int} (h : CMulA a b) : dMul (.int a) (.int b) = .ok (.int (a * b)) := if_pos h
@[simp] theorem dDiv_int {a b : Int} (h : CDivW a b) : dDiv (.int a) (.int b) = .ok (.int (a / b)) := if_pos h
@[simp] theorem dMod_int {a b : Int} (h : 0 < b) : dMod (.int a) (.int b) = .ok (.int (a % b)) := if_pos h
@[simp] theorem dLt_int {a b : Int} : dLt (.int a) (.int b) = .ok (.bl (decide (a < b))) := id rfl
@[simp] theorem dLe_int {a b : Int} : dLe (.int a) (.int b) = .ok (.bl (decide (a ≤ b))) := id rfl
@[simp] theorem dGt_int {a b : Int} : dGt (.int a) (.int b) = .ok (.bl (decide (b < a))) := id rfl
@[simp] theorem dGe_int {a b : Int} : dGe (.int a) (.int b) = .ok (.bl (decide (b ≤ a))) := id rfl
@[simp] theorem dEq_int {a b : Int} : dEq (.int a) (.int b) = .ok (.bl (decide (a = b))) := id rfl
@[simp] theorem dNe_int {a b : Int} : dNe (.int a) (.int b) = .ok (.bl (!decide (a = b))) := id rfl
@[simp] theorem dEq_str {a b : Str} : dEq (.str a) (.str b) = .ok (.bl (decide (a = b))) := id rfl
@[simp] theorem dNe_str {a b : Str} : dNe (.str a) (.str b) = .ok (.bl (!decide (a = b))) := id rfl
@[simp] theorem dIsN_e {a : D} : dIsN a .non = .ok (.bl (isNon a)) := id rfl
@[simp] theorem dNotN_e {a : D} : dNotN a .non = .ok (.bl (!isNon a)) := id rfl
@[simp] theorem isNon_non : isNon .non = true := id rfl
@[simp] theorem isNon_int {i : Int} : isNon (.int i) = false := id rfl
@[simp] theorem isNon_str {i : Str} : isNon (.str i) = false := id rfl
@[simp] theorem isNon_tup {i : List D} : isNon (.tup i) = false := id rfl
@[simp] theorem isNon_lst {i : List D} : isNon (.lst i) = false := id rfl
@[simp] theorem isNon_bl {i : Bool} : isNon (.bl i) = false := id rfl
def ixC : Option D → Res D
  | some d => .ok d
  | none => .bad
@[simp] theorem ixC_e {d : D} : ixC (some d) = .ok d := id rfl
@[simp] theorem dIx_lst {ds : List D} {i : Int} : dIx (.lst ds) (.int i) = ixC (atI ds i) := by
  show (match atI ds i with | some d => Res.ok d | none => .bad) = _
  cases atI ds i <;> rfl
@[simp] theorem dIx_tup {ds : List D} {i : Int} : dIx (.tup ds) (.int i) = ixC (atI ds i) := by
  show (match atI ds i with | some d => Res.ok d | none => .bad) = _
  cases atI ds i <;> rfl
theorem atI_nat {α : Type} {xs : List α} {i : Int} (h : 0 ≤ i) : atI xs i = xs[i.toNat]? := by
  unfold atI ixN
  rw [if_pos h]
  by_cases c : i < xs.length
  · rw [if_pos c]; rfl
  · rw [if_neg c, List.getElem?_eq_none (by omega)]; rfl
@[simp] theorem atI_0 {α : Type} {x : α} {xs : List α} : atI (x :: xs) 0 = some x := by rw [atI_nat (by decide)]; rfl
@[simp] theorem atI_1 {α : Type} {x y : α} {xs : List α} : atI (x :: y :: xs) 1 = some y := by rw [atI_nat (by decide)]; rfl
@[simp] theorem atI_2 {α : Type} {x y z : α} {xs : List α} : atI (x :: y :: z :: xs) 2 = some z := by rw [atI_nat (by decide)]; rfl
@[simp] theorem atI_3 {α : Type} {x y z w : α} {xs : List α} : atI (x :: y :: z :: w :: xs) 3 = some w := by rw [atI_nat (by decide)]; rfl
@[simp] theorem dAbs_e {i : Int} : dAbs [.int i] = .ok (.int (if i < 0 then -i else i)) := id rfl
theorem log_lt {n k : Nat} (h : n < 2 ^ k) (hk : 0 < k) : n.log2 < k := by
  by_cases z : n = 0
  · subst z; simpa using hk
  · exact (Nat.log2_lt z).mpr h
theorem cmul {a b : Int} (h1 : -(2 ^ 64) < a) (h2 : a < 2 ^ 64) (h3 : -(2 ^ 64) < b) (h4 : b < 2 ^ 64) : CMulA a b := by
  have x : a.natAbs < 2 ^ 64 := by omega
  have y : b.natAbs < 2 ^ 64 := by omega
  have := log_lt x (by decide)
  have := log_lt y (by decide)
  refine .inl ?_
  unfold CMulW
  omega
theorem cmulL {a b : Int} (h1 : -(2 ^ 64) < a) (h2 : a < 2 ^ 64) : CMulA a b := .inr (.inl ⟨h1, h2⟩)
theorem cmulR {a b : Int} (h1 : -(2 ^ 64) < b) (h2 : b < 2 ^ 64) : CMulA a b := .inr (.inr ⟨h1, h2⟩)
theorem cdiv {a b : Int} (h1 : 0 < b) (h2 : b < 2 ^ 64) : CDivW a b := by
  have y : b.natAbs < 2 ^ 64 := by omega
  have := log_lt y (by decide)
  exact ⟨h1, by omega⟩
@[simp] theorem dInt_bl {b : Bool} : dInt [.bl b] = .ok (.int (if b then 1 else 0)) := id rfl
@[simp] theorem dInt_int {b : Int} : dInt [.int b] = .ok (.int b) := id rfl
@[simp] theorem dPow_int {a b : Int} (h1 : 0 ≤ b) (h2 : b ≤ 1000000) (h3 : a.natAbs < 2 ^ 64) : dPow (.int a) (.int b) = .ok (.int (a ^ b.toNat)) := if_pos ⟨h1, h2, h3⟩
@[simp] theorem dLen_lst {ds : List D} (h : ds.length ≤ 16777215) : dLen [.lst ds] = .ok (.int ds.length) := by
  unfold dLen; first | exact if_pos (fit_of h) | rfl
@[simp] theorem dLen_tup {ds : List D} (h : ds.length ≤ 16777215) : dLen [.tup ds] = .ok (.int ds.length) := by
  unfold dLen; first | exact if_pos (fit_of h) | rfl
@[simp] theorem dLen_scr {ds : List Int} (h : ds.length ≤ 16777215) : dLen [.scr ds] = .ok (.int ds.length) := by
  unfold dLen; first | exact if_pos (fit_of h) | rfl
@[simp] theorem dLen_str {z : Str} (h : z.length ≤ 16777215) : dLen [.str z] = .ok (.int z.length) := by
  unfold dLen; first | exact if_pos (fit_of h) | rfl
theorem dIx_scr {ns : List Int} {i : Int} : dIx (.scr ns) (.int i) = ixC ((atI ns i).map D.int) := by
  show (match atI ns i with | some n => Res.ok (D.int n) | none => .bad) = _
  cases atI ns i <;> rfl
def slC (a : D) : Res (Option Int) → Res (Option Int) → Res D
  | .ok l, .ok h => dSl a l h
  | .ok _, .exc x => .exc x
  | .exc x, _ => .exc x
  | _, _ => .bad
@[simp] theorem slC_ok {a : D} {l h : Option Int} : slC a (.ok l) (.ok h) = dSl a l h := id rfl
def slA (fl fh : VEnv → Res (Option Int)) (ρ : VEnv) (a : D) : Res D := slC a (fl ρ) (fh ρ)
@[simp] theorem slA_e {fl fh : VEnv → Res (Option Int)} {ρ : VEnv} {a : D} : slA fl fh ρ a = slC a (fl ρ) (fh ρ) := id rfl
@[simp] theorem eSl_e {fe : VEnv → Res D} {fl fh : VEnv → Res (Option Int)} {ρ : VEnv} : eSl fe fl fh ρ = bd (slA fl fh ρ) (fe ρ) := by
  unfold eSl
  cases fe ρ with
  | ok a => show (fl ρ).bind _ = slC a (fl ρ) (fh ρ); cases fl ρ <;> cases fh ρ <;> rfl
  | exc x => rfl
  | bad => rfl
@[simp] theorem pNo_e {ρ : VEnv} : pNo ρ = .ok none := id rfl
@[simp] theorem pYes_e {f : VEnv → Res D} {ρ : VEnv} : pYes f ρ = bd dPart (f ρ) := id rfl
@[simp] theorem dPart_e {i : Int} : dPart (.int i) = .ok (some i) := id rfl
@[simp] theorem dNeg_e {i : Int} : dNeg (.int i) = .ok (.int (-i)) := id rfl
def lastL (w : List Nat) : List Nat := match w.getLast? with
  | none => []
  | some a => [a]
@[simp] theorem lastL_nil : lastL [] = [] := id rfl
@[simp] theorem lastL_snoc {w : List Nat} {c : Nat} : lastL (w ++ [c]) = [c] := by unfold lastL; rw [List.getLast?_concat]
theorem dSl_last {w : List Nat} (h : w.length ≤ 16777215) : dSl (.str (Dear.txt w)) (some (-1)) none = .ok (.str (Dear.txt (lastL w))) := by
  show (if fit (Dear.txt w).length = true then Res.ok (D.str (cutS (Dear.txt w) (some (-1)) none)) else .bad) = _
  rw [if_pos (fit_of (by rw [Dear.txt_length]; exact h))]
  rcases List.eq_nil_or_concat w with e | ⟨l, c, e⟩
  · subst e; rw [Dear.cut_last0]; rfl
  · subst e; rw [List.concat_eq_append, Dear.cut_last, lastL_snoc]
theorem txt_eq {a b : List Nat} : decide (Dear.txt a = Dear.txt b) = decide (a = b) := by
  by_cases h : a = b
  · subst h; simp
  · rw [decide_eq_false h, decide_eq_false fun e => h (Dear.txt_inj e)]
theorem inL_txts {w : List Nat} {l : List (List Nat)} : inL (.str (Dear.txt w)) (l.map fun v => .str (Dear.txt v)) = decide (w ∈ l) := by
  unfold inL
  induction l with
  | nil => simp
  | cons v r ih =>
    rw [List.map_cons, List.any_cons, ih]
    show (decide (Dear.txt v = Dear.txt w) || _) = _
    rw [txt_eq]
    by_cases h : v = w
    · subst h; simp
    · simp [h, Ne.symm h]
theorem dIn_txts {neg : Bool} {w : List Nat} {l : List (List Nat)} : dIn neg (.str (Dear.txt w)) (.lst (l.map fun v => .str (Dear.txt v))) = .ok (.bl (neg ^^ decide (w ∈ l))) := by
  show (if _ then Res.ok (D.bl (neg ^^ inL _ _)) else .bad) = _
  rw [inL_txts, if_pos]
  have : (l.map fun v => D.str (Dear.txt v)).all flatD = true := by
    rw [List.all_map]
    exact List.all_eq_true.mpr fun _ _ => rfl
  rw [this]
  rfl
/-! runs -/
@[simp] theorem outR_nx : outR (.nx ρ) = .ok .non := id rfl
@[simp] theorem outR_rt {d : D} : outR (.rt d ρ) = .ok d := id rfl
@[simp] theorem outR_ro {d : D} : outR (.ro d ρ) = .ok d := id rfl
@[simp] theorem outR_ex {x : Ex} : outR (.ex x ρ) = .exc x := id rfl
@[simp] theorem outO_ro {d : D} : outO (.ro d ρ) = .ok d := id rfl
def ioC (d : D) : Option (Bool × D) → Res (D × D)
  | some (true, o) => .ok (d, o)
  | _ => .bad
@[simp] theorem ioC_e {d o : D} : ioC d (some (true, o)) = .ok (d, o) := id rfl
@[simp] theorem outIO_nx {j : Nat} : outIO j (.nx ρ) = ioC .non (ownS ρ j) := id rfl
@[simp] theorem outIO_rt {j : Nat} {d : D} : outIO j (.rt d ρ) = ioC d (ownS ρ j) := id rfl
/-! loops -/
noncomputable def loopK (L : List Nat) (c : VEnv → Res Bool) (g : Env → Out) : Out → Out
  | .nx ρ => sWhile L c g ρ
  | .ct ρ => sWhile L c g ρ
  | .bk ρ => .nx ρ
  | .rt d ρ => .rt d ρ
  | .ro d ρ => .ro d ρ
  | .ex x ρ => .ex x ρ
  | .bad => .bad
@[simp] theorem loopK_nx {c : VEnv → Res Bool} : loopK L c g (.nx ρ) = sWhile L c g ρ := id rfl
@[simp] theorem loopK_ct {c : VEnv → Res Bool} : loopK L c g (.ct ρ) = sWhile L c g ρ := id rfl
@[simp] theorem loopK_bk {c : VEnv → Res Bool} : loopK L c g (.bk ρ) = .nx ρ := id rfl
@[simp] theorem loopK_rt {c : VEnv → Res Bool} {d : D} : loopK L c g (.rt d ρ) = .rt d ρ := id rfl
@[simp] theorem loopK_ro {c : VEnv → Res Bool} {d : D} : loopK L c g (.ro d ρ) = .ro d ρ := id rfl
noncomputable def loopC (L : List Nat) (c : VEnv → Res Bool) (g : Env → Out) (ρ : Env) (b : Bool) : Out := if b = true then loopK L c g (g ρ) else .nx ρ
@[simp] theorem loopC_t {c : VEnv → Res Bool} : loopC L c g ρ true = loopK L c g (g ρ) := id rfl
@[simp] theorem loopC_f {c : VEnv → Res Bool} : loopC L c g ρ false = .nx ρ := id rfl
theorem sWhile_e {c : VEnv → Res Bool} : sWhile L c g ρ = atR (loopC L c g ρ) (shut L ρ) (c (view L ρ)) := by
  rw [sWhile_eq, eAt_e]
  congr 1
  funext b
  unfold loopC
  cases b
  · rfl
  · show loopO _ (g ρ) = loopK _ _ _ (g ρ)
    cases g ρ <;> rfl
def forK (tg : Tgt) (g : Env → Out) (l : List Nat) (ds : List D) : Out → Out
  | .nx ρ => forL tg g l ds (clr l ρ)
  | .ct ρ => forL tg g l ds (clr l ρ)
  | .bk ρ => .nx ρ
  | .rt d ρ => .rt d ρ
  | .ro d ρ => .ro d ρ
  | .ex x ρ => .ex x ρ
  | .bad => .bad
section
variable {tg : Tgt} {l : List Nat} {ds : List D}
@[simp] theorem forK_nx : forK tg g l ds (.nx ρ) = forL tg g l ds (clr l ρ) := id rfl
@[simp] theorem forK_ct : forK tg g l ds (.ct ρ) = forL tg g l ds (clr l ρ) := id rfl
@[simp] theorem forK_bk : forK tg g l ds (.bk ρ) = .nx ρ := id rfl
@[simp] theorem forK_rt {d : D} : forK tg g l ds (.rt d ρ) = .rt d ρ := id rfl
@[simp] theorem forK_ro {d : D} : forK tg g l ds (.ro d ρ) = .ro d ρ := id rfl
@[simp] theorem forK_bad : forK tg g l ds .bad = .bad := id rfl
@[simp] theorem forL_nil : forL tg g l [] ρ = .nx ρ := id rfl
def forT (tg : Tgt) (g : Env → Out) (l : List Nat) (ds : List D) (ρ : Env) : Res (List (Nat × D)) → Out
  | .ok as => forK tg g l ds (g (setS ρ as))
  | _ => .bad
@[simp] theorem forT_ok {as : List (Nat × D)} : forT tg g l ds ρ (.ok as) = forK tg g l ds (g (setS ρ as)) := id rfl
/-- one turn -/
theorem forL_cons {d : D} : forL tg g l (d :: ds) ρ = forT tg g l ds ρ (tg d) := by
  unfold forL forT
  cases tg d with
  | ok as =>
    show loopO _ (g (setS ρ as)) = forK _ _ _ _ (g (setS ρ as))
    cases g (setS ρ as) <;> rfl
  | exc x => rfl
  | bad => rfl
def sForC (L : List Nat) (ρ : Env) (tg : Tgt) (g : Env → Out) (l : List Nat) (ds : List D) : Out := forL tg g l ds (shut L ρ)
@[simp] theorem sForC_e : sForC L ρ tg g l ds = forL tg g l ds (shut L ρ) := id rfl
@[simp] theorem sFor_e {it : VEnv → Res (List D)} : sFor L it tg g l ρ = atR (sForC L ρ tg g l) (shut L ρ) (it (view L ρ)) := eAt_e
/-- every turn goes on, and changes nothing that stays -/
theorem forL_same {ds : List D} {ρ : Env} (hs : ∀ d ∈ ds, ∃ as ρ', tg d = .ok as ∧ g (setS ρ as) = .nx ρ' ∧ clr l ρ' = ρ) : forL tg g l ds ρ = .nx ρ := by
  induction ds with
  | nil => rfl
  | cons d r ih =>
    obtain ⟨as, ρ', e1, e2, e3⟩ := hs d List.mem_cons_self
    rw [forL_cons, e1, forT_ok, e2, forK_nx, e3]
    exact ih fun x hx => hs x (List.mem_cons_of_mem _ hx)
end
/-! comprehensions -/
theorem compL_of {tg : Tgt} {c : VEnv → Res Bool} {f : VEnv → Res D} {ρ : VEnv} {vs : List Nat} {p : D → Bool} {q : D → D} : ∀ {ds : List D}, (∀ d ∈ ds, ∃ as, tg d = .ok as ∧ as.all (fun p => vs.contains p.1) = true ∧ c (setAllD ρ as) = .ok (p d) ∧ (p d = true → f (setAllD ρ as) = .ok (q d))) → compL tg c f ρ vs ds = .ok ((ds.filter p).map q)
  | [], _ => rfl
  | d :: ds, h => by
    obtain ⟨as, h1, h2, h3, h4⟩ := h d List.mem_cons_self
    have ih := compL_of (ds := ds) fun x hx => h x (List.mem_cons_of_mem _ hx)
    unfold compL
    rw [h1, Res.bind_ok, if_pos h2, h3, Res.bind_ok]
    cases hp : p d with
    | true => rw [if_pos rfl, h4 hp, Res.bind_ok, ih, Res.bind_ok, List.filter_cons, hp, if_pos rfl, List.map_cons]
    | false => rw [if_neg Bool.false_ne_true, ih, List.filter_cons, hp, if_neg Bool.false_ne_true]
theorem eComp_of {tg : Tgt} {c : VEnv → Res Bool} {f : VEnv → Res D} {ρ : VEnv} {vs : List Nat} {it : VEnv → Res (List D)} {ds : List D} (p : D → Bool) (q : D → D) (hi : it ρ = .ok ds) (hl : ds.length ≤ 16777215)
    (h : ∀ d ∈ ds, ∃ as, tg d = .ok as ∧ as.all (fun p => vs.contains p.1) = true ∧ c (setAllD (wipeD ρ vs) as) = .ok (p d) ∧ (p d = true → f (setAllD (wipeD ρ vs) as) = .ok (q d))) : eComp vs it tg c f ρ = .ok (.lst ((ds.filter p).map q)) := by
  unfold eComp
  rw [hi, Res.bind_ok, if_pos (fit_of hl), compL_of h]
  rfl
def itemsC : D → Res (List D) := dItems
@[simp] theorem iAny_e {f : VEnv → Res D} {ρ : VEnv} : iAny f ρ = bd itemsC (f ρ) := id rfl
@[simp] theorem items_lst {ds : List D} : itemsC (.lst ds) = .ok ds := id rfl
@[simp] theorem items_tup {ds : List D} : itemsC (.tup ds) = .ok ds := id rfl
@[simp] theorem items_scr {ns : List Int} : itemsC (.scr ns) = .ok (ns.map D.int) := id rfl
@[simp] theorem items_str {z : Str} : itemsC (.str z) = .ok (signs z) := id rfl
@[simp] theorem iRange_e {f : VEnv → Res (List D)} {ρ : VEnv} : iRange f ρ = bd dRange (f ρ) := id rfl
@[simp] theorem iEnumD_e {f : VEnv → Res (List D)} {ρ : VEnv} : iEnumD f ρ = bd dEnum (f ρ) := id rfl
@[simp] theorem iZipD_e {f : VEnv → Res (List D)} {ρ : VEnv} : iZipD f ρ = bd dZip (f ρ) := id rfl
theorem inR_of {i : Int} (h1 : -(2 ^ 62) ≤ i) (h2 : i < 2 ^ 62) : inR i = true := decide_eq_true ⟨h1, h2⟩
theorem dRange1 {j : Int} (h1 : -(2 ^ 62) ≤ j) (h2 : j < 2 ^ 62) : dRange [.int j] = .ok (rangeD 0 j.toNat) := if_pos (inR_of h1 h2)
def iDctC (q : List (D × D) → List D) : D → Res (List D) := dDct q
@[simp] theorem iDct_e {q : List (D × D) → List D} {i : Nat} {ρ : VEnv} : iDct q i ρ = bd (iDctC q) (varC (ρ[i]?)) := id rfl
@[simp] theorem iDctC_e {q : List (D × D) → List D} {ds : List (D × D)} : iDctC q (.dct false ds) = .ok (q ds) := id rfl
/-! with state -/
def md (k : α → Env → MO β) : MO α → MO β
  | .ok a ρ => k a ρ
  | .ex x ρ => .ex x ρ
  | .bad => .bad
@[simp] theorem md_ok {k : α → Env → MO β} {a : α} : md k (.ok a ρ) = k a ρ := id rfl
@[simp] theorem md_ex {k : α → Env → MO β} {x : Ex} : md k (.ex x ρ) = .ex x ρ := id rfl
@[simp] theorem md_bad {k : α → Env → MO β} : md k .bad = .bad := id rfl
def mpK (aft : α → Env → Env) (ρ ρx : Env) : Res α → MO α
  | .ok d => .ok d (aft d ρ)
  | .exc x => .ex x ρx
  | .bad => .bad
@[simp] theorem mpK_ok {af : α → Env → Env} {d : α} : mpK af ρ ρx (.ok d) = .ok d (af d ρ) := id rfl
@[simp] theorem mP_e {f : VEnv → Res D} : mP L f ρ = mpK (aft L) ρ (shut L ρ) (f (view L ρ)) := by unfold mP mpK; cases f (view L ρ) <;> rfl
@[simp] theorem mAP_e {f : VEnv → Res (List D)} : mAP L f ρ = mpK (aftL L) ρ (shut L ρ) (f (view L ρ)) := by unfold mAP mpK; cases f (view L ρ) <;> rfl
def keepE (_ : α) (ρ : Env) : Env := ρ
@[simp] theorem keepE_e {a : α} : keepE a ρ = ρ := id rfl
@[simp] theorem mB_e {f : VEnv → Res Bool} : mB L f ρ = mpK keepE ρ (shut L ρ) (f (view L ρ)) := by unfold mB mpK; cases f (view L ρ) <;> rfl
def lift (ρ : Env) : Res α → MO α
  | .ok d => .ok d ρ
  | _ => .bad
@[simp] theorem lift_ok {a : α} : lift ρ (.ok a) = .ok a ρ := id rfl
def mOp2 (g : D → D → Res D) (a b : D) (ρ : Env) : MO D := lift ρ (g a b)
@[simp] theorem mOp2_e {g : D → D → Res D} {a b : D} : mOp2 g a b ρ = lift ρ (g a b) := id rfl
def mOp1 (g : D → D → Res D) (mb : Env → MO D) (a : D) (ρ : Env) : MO D := md (mOp2 g a) (mb ρ)
@[simp] theorem mOp1_e {g : D → D → Res D} {mb : Env → MO D} {a : D} : mOp1 g mb a ρ = md (mOp2 g a) (mb ρ) := id rfl
@[simp] theorem mOp_e {g : D → D → Res D} {ma mb : Env → MO D} : mOp g ma mb ρ = md (mOp1 g mb) (ma ρ) := by
  unfold mOp
  cases ma ρ with
  | ok a ρ1 =>
    show (mb ρ1).bind _ = md _ (mb ρ1)
    cases mb ρ1 with
    | ok b ρ2 => show (match g a b with | .ok d => MO.ok d ρ2 | _ => .bad) = lift ρ2 (g a b); cases g a b <;> rfl
    | ex x ρ2 => rfl
    | bad => rfl
  | ex x ρ2 => rfl
  | bad => rfl
@[simp] theorem mNil_e : mNil ρ = .ok [] ρ := id rfl
def mCons2 (a : D) (as : List D) (ρ : Env) : MO (List D) := .ok (a :: as) ρ
@[simp] theorem mCons2_e {a : D} {as : List D} : mCons2 a as ρ = .ok (a :: as) ρ := id rfl
def mCons1 (n : Env → MO (List D)) (a : D) (ρ : Env) : MO (List D) := md (mCons2 a) (n ρ)
@[simp] theorem mCons1_e {n : Env → MO (List D)} {a : D} : mCons1 n a ρ = md (mCons2 a) (n ρ) := id rfl
@[simp] theorem mCons_e {m : Env → MO D} {n : Env → MO (List D)} : mCons m n ρ = md (mCons1 n) (m ρ) := by
  unfold mCons
  cases m ρ with
  | ok a ρ1 => show (n ρ1).bind _ = md _ (n ρ1); cases n ρ1 <;> rfl
  | ex x ρ2 => rfl
  | bad => rfl
def mTup1 (as : List D) (ρ : Env) : MO D := lift ρ (tupC as)
@[simp] theorem mTup1_e {as : List D} : mTup1 as ρ = lift ρ (tupC as) := id rfl
theorem lift_if {b : Bool} {d : D} : lift ρ (if b = true then Res.ok d else .bad) = if b = true then MO.ok d ρ else .bad := by cases b <;> rfl
@[simp] theorem mTup_e {m : Env → MO (List D)} : mTup m ρ = md mTup1 (m ρ) := by
  unfold mTup
  cases m ρ with
  | ok a ρ1 => exact lift_if.symm
  | ex x ρ2 => rfl
  | bad => rfl
def mLst1 (as : List D) (ρ : Env) : MO D := lift ρ (lstC as)
@[simp] theorem mLst1_e {as : List D} : mLst1 as ρ = lift ρ (lstC as) := id rfl
@[simp] theorem mLst_e {m : Env → MO (List D)} : mLst m ρ = md mLst1 (m ρ) := by
  unfold mLst
  cases m ρ with
  | ok a ρ1 => exact lift_if.symm
  | ex x ρ2 => rfl
  | bad => rfl
def mApp1 (g : List D → Res D) (as : List D) (ρ : Env) : MO D := lift ρ (g as)
@[simp] theorem mApp1_e {g : List D → Res D} {as : List D} : mApp1 g as ρ = lift ρ (g as) := id rfl
@[simp] theorem mApp_e {g : List D → Res D} {m : Env → MO (List D)} : mApp g m ρ = md (mApp1 g) (m ρ) := by
  unfold mApp
  cases m ρ with
  | ok a ρ1 => show (match g a with | .ok d => MO.ok d ρ1 | _ => .bad) = lift ρ1 (g a); cases g a <;> rfl
  | ex x ρ2 => rfl
  | bad => rfl
def ioE (i : Nat) (t : Bool) (ρ : Env) : Res (D × D) → MO D
  | .ok r => .ok r.1 (ρ.set i (some (.own t r.2)))
  | _ => .bad
@[simp] theorem ioE_e {i : Nat} {t : Bool} {r : D × D} : ioE i t ρ (.ok r) = .ok r.1 (ρ.set i (some (.own t r.2))) := id rfl
def ioD (j i : Nat) (f : List D → Res (D × D)) (as : List D) (ρ : Env) : Option (Bool × D) → MO D
  | some (t, o) => ioE i t ρ (f (as.insertIdx j o))
  | none => .bad
@[simp] theorem ioD_e {j i : Nat} {f : List D → Res (D × D)} {as : List D} {t : Bool} {o : D} : ioD j i f as ρ (some (t, o)) = ioE i t ρ (f (as.insertIdx j o)) := id rfl
def ioB (j i : Nat) (f : List D → Res (D × D)) (as : List D) (ρ : Env) : MO D := ioD j i f as ρ (ownS ρ i)
@[simp] theorem ioB_e {j i : Nat} {f : List D → Res (D × D)} {as : List D} : ioB j i f as ρ = ioD j i f as ρ (ownS ρ i) := id rfl
def ioA (j i : Nat) (f : List D → Res (D × D)) (m : Env → MO (List D)) (ρ : Env) : Option (Bool × D) → MO D
  | some _ => md (ioB j i f) (m ρ)
  | none => .bad
@[simp] theorem ioA_e {j i : Nat} {f : List D → Res (D × D)} {m : Env → MO (List D)} {x : Bool × D} : ioA j i f m ρ (some x) = md (ioB j i f) (m ρ) := id rfl
@[simp] theorem mIO_e {j i : Nat} {f : List D → Res (D × D)} {m : Env → MO (List D)} : mIO j i f m ρ = ioA j i f m ρ (ownS ρ i) := by
  unfold mIO ioA
  cases ownS ρ i with
  | none => rfl
  | some x =>
    show (m ρ).bind _ = md _ (m ρ)
    cases m ρ with
    | ok as ρ1 =>
      show (match ownS ρ1 i with | some (t, o) => _ | none => _) = ioD j i f as ρ1 (ownS ρ1 i)
      cases ownS ρ1 i with
      | none => rfl
      | some y =>
        show (match f (as.insertIdx j y.2) with | .ok r => MO.ok r.1 (ρ1.set i (some (.own y.1 r.2))) | _ => .bad) = ioE i y.1 ρ1 (f (as.insertIdx j y.2))
        cases f (as.insertIdx j y.2) <;> rfl
    | ex x ρ1 => rfl
    | bad => rfl
def mtC : D → Env → MO Bool
  | .bl b, ρ => .ok b ρ
  | _, _ => .bad
@[simp] theorem mtC_e {b : Bool} : mtC (.bl b) ρ = .ok b ρ := id rfl
@[simp] theorem mTest_e {m : Env → MO D} : mTest m ρ = md mtC (m ρ) := by
  unfold mTest
  cases m ρ with
  | ok a ρ1 => cases a <;> rfl
  | ex x ρ2 => rfl
  | bad => rfl
def mnC (b : Bool) (ρ : Env) : MO Bool := .ok (!b) ρ
@[simp] theorem mnC_e {b : Bool} : mnC b ρ = .ok (!b) ρ := id rfl
@[simp] theorem mNot_e {m : Env → MO Bool} : mNot m ρ = md mnC (m ρ) := id rfl
def mandC (n : Env → MO Bool) (b : Bool) (ρ : Env) : MO Bool := if b = true then n ρ else .ok false ρ
@[simp] theorem mandC_t {n : Env → MO Bool} : mandC n true ρ = n ρ := id rfl
@[simp] theorem mandC_f {n : Env → MO Bool} : mandC n false ρ = .ok false ρ := id rfl
@[simp] theorem mAnd_e {m n : Env → MO Bool} : mAnd m n ρ = md (mandC n) (m ρ) := id rfl
def morC (n : Env → MO Bool) (b : Bool) (ρ : Env) : MO Bool := if b = true then .ok true ρ else n ρ
@[simp] theorem morC_t {n : Env → MO Bool} : morC n true ρ = .ok true ρ := id rfl
@[simp] theorem morC_f {n : Env → MO Bool} : morC n false ρ = n ρ := id rfl
@[simp] theorem mOr_e {m n : Env → MO Bool} : mOr m n ρ = md (morC n) (m ρ) := id rfl
@[simp] theorem mYes_e : mYes ρ = .ok true ρ := id rfl
def ats (k : α → Env → Out) : MO α → Out
  | .ok a ρ => k a ρ
  | .ex x ρ => .ex x ρ
  | .bad => .bad
@[simp] theorem ats_ok {k : α → Env → Out} {a : α} : ats k (.ok a ρ) = k a ρ := id rfl
theorem mAt_e {m : Env → MO α} {k : α → Env → Out} : mAt m ρ k = ats k (m ρ) := by unfold mAt ats; cases m ρ <;> rfl
def asgM1 (tg : Tgt) (d : D) (ρ : Env) : Out := asgD ρ (tg d)
@[simp] theorem asgM1_e {tg : Tgt} {d : D} : asgM1 tg d ρ = asgD ρ (tg d) := id rfl
@[simp] theorem sAsgM_e {m : Env → MO D} {tg : Tgt} : sAsgM m tg ρ = ats (asgM1 tg) (m ρ) := by
  unfold sAsgM
  rw [mAt_e]
  congr 1
def exprM1 (_ : D) (ρ : Env) : Out := .nx ρ
@[simp] theorem exprM1_e {d : D} : exprM1 d ρ = .nx ρ := id rfl
@[simp] theorem sExprM_e {m : Env → MO D} : sExprM m ρ = ats exprM1 (m ρ) := mAt_e
def retM1 (d : D) (ρ : Env) : Out := .rt d ρ
@[simp] theorem retM1_e {d : D} : retM1 d ρ = .rt d ρ := id rfl
@[simp] theorem sRetM_e {m : Env → MO D} : sRetM m ρ = ats retM1 (m ρ) := mAt_e
def ifM1 (g h : Env → Out) (b : Bool) (ρ : Env) : Out := if b = true then g ρ else h ρ
@[simp] theorem ifM1_t : ifM1 g h true ρ = g ρ := id rfl
@[simp] theorem ifM1_f : ifM1 g h false ρ = h ρ := id rfl
@[simp] theorem sIfM_e {m : Env → MO Bool} : sIfM m g h ρ = ats (ifM1 g h) (m ρ) := mAt_e
def appM1 (i : Nat) (d : D) (ρ : Env) : Out := chg ρ i (appF d)
@[simp] theorem appM1_e {i : Nat} {d : D} : appM1 i d ρ = chg ρ i (appF d) := id rfl
@[simp] theorem sAppM_e {i : Nat} {m : Env → MO D} : sAppM i m ρ = ats (appM1 i) (m ρ) := mAt_e
def ownM1 (i : Nat) (d : D) (ρ : Env) : Out := .nx (ρ.set i (some (.own false d)))
@[simp] theorem ownM1_e {i : Nat} {d : D} : ownM1 i d ρ = .nx (ρ.set i (some (.own false d))) := id rfl
@[simp] theorem sOwnM_e {i : Nat} {m : Env → MO D} : sOwnM i m ρ = ats (ownM1 i) (m ρ) := mAt_e
/-! comprehensions with state -/
end
end Du

namespace Du
open PySem PySem.Spec PyProof.Rows L2
/-! ### dicts, sums, comparisons, reckoned -/
section
variable {α β : Type} {g h : Env → Out} {ρ ρx : Env} {L : List Nat}
def ownDC : Option (Option Slot) → Option (Bool × List (D × D))
  | some (some (.own t (.dct false ds))) => some (t, ds)
  | _ => none
@[simp] theorem ownD_e {i : Nat} : ownD ρ i = ownDC (ρ[i]?) := id rfl
@[simp] theorem ownDC_e {t : Bool} {ds : List (D × D)} : ownDC (some (some (.own t (.dct false ds)))) = some (t, ds) := id rfl
def needDC (g : Env → Out) (ρ : Env) : Option (Bool × List (D × D)) → Out
  | some _ => g ρ
  | none => .bad
@[simp] theorem needD_e {i : Nat} : needD i g ρ = needDC g ρ (ownD ρ i) := id rfl
@[simp] theorem needDC_e {x : Bool × List (D × D)} : needDC g ρ (some x) = g ρ := id rfl
def chgDT (ρ : Env) (i : Nat) (t : Bool) : Option (List (D × D)) → Out
  | some es => .nx (ρ.set i (some (.own t (.dct false es))))
  | none => .bad
@[simp] theorem chgDT_e {i : Nat} {t : Bool} {es : List (D × D)} : chgDT ρ i t (some es) = .nx (ρ.set i (some (.own t (.dct false es)))) := id rfl
def chgDC (ρ : Env) (i : Nat) (f : List (D × D) → Option (List (D × D))) : Option (Bool × List (D × D)) → Out
  | some (t, ds) => chgDT ρ i t (f ds)
  | none => .bad
@[simp] theorem chgDC_e {i : Nat} {f : List (D × D) → Option (List (D × D))} {t : Bool} {ds : List (D × D)} : chgDC ρ i f (some (t, ds)) = chgDT ρ i t (f ds) := id rfl
@[simp] theorem chgD_e {i : Nat} {f : List (D × D) → Option (List (D × D))} : chgD ρ i f = chgDC ρ i f (ownD ρ i) := id rfl
noncomputable def putDF (n d : D) (ds : List (D × D)) : Option (List (D × D)) := if (dKeyOk n && fit ds.length) = true then some (dPut ds n d) else none
@[simp] theorem putDF_str {z : Str} {d : D} {ds : List (D × D)} (h : ds.length ≤ 16777215) : putDF (.str z) d ds = some (dPut ds (.str z) d) := if_pos (by rw [fit_of h]; rfl)
@[simp] theorem putDF_int {z : Int} {d : D} {ds : List (D × D)} (h : ds.length ≤ 16777215) : putDF (.int z) d ds = some (dPut ds (.int z) d) := if_pos (by rw [fit_of h]; rfl)
noncomputable def putDE (i : Nat) (ρ : Env) (d n : D) : Out := chgD ρ i (putDF n d)
@[simp] theorem putDE_e {i : Nat} {d n : D} : putDE i ρ d n = chgD ρ i (putDF n d) := id rfl
noncomputable def putDD (i : Nat) (fk : VEnv → Res D) (d : D) (ρ : Env) : Out := atR (putDE i ρ d) (shut [] ρ) (fk (view [] ρ))
@[simp] theorem putDD_e {i : Nat} {fk : VEnv → Res D} {d : D} : putDD i fk d ρ = atR (putDE i ρ d) (shut [] ρ) (fk (view [] ρ)) := id rfl
noncomputable def putDK (i : Nat) (L : List Nat) (ρ : Env) (fk : VEnv → Res D) (d : D) : Out := needD i (putDD i fk d) (aft L d ρ)
@[simp] theorem putDK_e {i : Nat} {fk : VEnv → Res D} {d : D} : putDK i L ρ fk d = needD i (putDD i fk d) (aft L d ρ) := id rfl
@[simp] theorem sPutD_e {i : Nat} {fv fk : VEnv → Res D} : sPutD i L fv fk ρ = atR (putDK i L ρ fk) (shut L ρ) (fv (view L ρ)) := by
  unfold sPutD
  rw [eAt_e]
  congr 1
noncomputable def putDM2 (i : Nat) (d n : D) (ρ : Env) : Out := chgD ρ i (putDF n d)
@[simp] theorem putDM2_e {i : Nat} {d n : D} : putDM2 i d n ρ = chgD ρ i (putDF n d) := id rfl
noncomputable def putDM1 (i : Nat) (n : Env → MO D) (d : D) (ρ : Env) : Out := ats (putDM2 i d) (n ρ)
@[simp] theorem putDM1_e {i : Nat} {n : Env → MO D} {d : D} : putDM1 i n d ρ = ats (putDM2 i d) (n ρ) := id rfl
noncomputable def putDM0 (i : Nat) (n : Env → MO D) (d : D) (ρ : Env) : Out := needD i (putDM1 i n d) ρ
@[simp] theorem putDM0_e {i : Nat} {n : Env → MO D} {d : D} : putDM0 i n d ρ = needD i (putDM1 i n d) ρ := id rfl
@[simp] theorem sPutDM_e {i : Nat} {m n : Env → MO D} : sPutDM i m n ρ = ats (putDM0 i n) (m ρ) := by
  unfold sPutDM
  rw [mAt_e]
  congr 1
def itC : Option (Bool × List (D × D)) → Env → MO D
  | some (_, ds), ρ => if fit ds.length = true then .ok (.lst (qItems ds)) ρ else .bad
  | none, _ => .bad
/-! lists that grow, are emptied -/
def lsC : D → Res (List D) := dLst
@[simp] theorem lsC_e {ds : List D} : lsC (.lst ds) = .ok ds := id rfl
@[simp] theorem eLs_e {f : VEnv → Res D} {ρ : VEnv} : eLs f ρ = bd lsC (f ρ) := id rfl
def extF (es ds : List D) : Option (List D) := if fit (ds.length + es.length) = true then some (ds ++ es) else none
@[simp] theorem extF_e {es ds : List D} (h : ds.length + es.length ≤ 16777215) : extF es ds = some (ds ++ es) := if_pos (fit_of h)
def extC (i : Nat) (L : List Nat) (ρ : Env) (es : List D) : Out := chg (aftL L es ρ) i (extF es)
@[simp] theorem extC_e {i : Nat} {es : List D} : extC i L ρ es = chg (aftL L es ρ) i (extF es) := id rfl
@[simp] theorem sExt_e {i : Nat} {f : VEnv → Res D} : sExt i L f ρ = atR (extC i L ρ) (shut L ρ) (eLs f (view L ρ)) := eAt_e
def clrF (_ : List D) : Option (List D) := some []
@[simp] theorem clrF_e {ds : List D} : clrF ds = some [] := id rfl
@[simp] theorem sClr_e {i : Nat} : sClr i ρ = chg ρ i clrF := id rfl
/-! dicts -/
@[simp] theorem eDct0_e {ρ : VEnv} : eDct0 ρ = .ok (.dct false []) := id rfl
def dct1C : D → D → Res D := fun k v => if dKeyOk k = true then .ok (.dct false [(k, v)]) else .bad
@[simp] theorem dct1C_str {z : Str} {v : D} : dct1C (.str z) v = .ok (.dct false [(.str z, v)]) := id rfl
@[simp] theorem eDct1_e {fk fv : VEnv → Res D} {ρ : VEnv} : eDct1 fk fv ρ = op2 dct1C (fk ρ) (fv ρ) := by
  unfold eDct1
  cases fk ρ with
  | ok k => show (fv ρ).bind _ = op2 dct1C (.ok k) (fv ρ); cases fv ρ <;> rfl
  | exc x => rfl
  | bad => rfl
def iotB (f : List D → Res (D × D)) (as : List D) (o : D) : Res D := match f (o :: as) with
  | .ok r => .ok r.1
  | _ => .bad
def iotC (f : List D → Res (D × D)) (fa : VEnv → Res (List D)) (ρ : VEnv) (o : D) : Res D := bd (fun as => iotB f as o) (fa ρ)
noncomputable def g1C (a n : D) : Res D := match a with
  | .dct false kvs => if dKeyOk n = true then .ok ((dGet kvs n).getD .non) else .bad
  | _ => .bad
theorem dGet_cons {p : D × D} {kvs : List (D × D)} {k : D} : dGet (p :: kvs) k = if p.1 = k then some p.2 else dGet kvs k := by
  unfold dGet
  rw [List.find?_cons]
  by_cases h : p.1 = k
  · rw [decide_eq_true h, if_pos h]; rfl
  · rw [decide_eq_false h, if_neg h]
theorem dGet_none {k : D} : ∀ {kvs : List (D × D)}, (∀ p ∈ kvs, p.1 ≠ k) → dGet kvs k = none
  | [], _ => rfl
  | p :: r, h => by
    rw [dGet_cons, if_neg (h p List.mem_cons_self)]
    exact dGet_none fun q hq => h q (List.mem_cons_of_mem _ hq)
theorem dGet_some {k v : D} : ∀ {kvs : List (D × D)}, (kvs.map (·.1)).Nodup → (k, v) ∈ kvs → dGet kvs k = some v
  | [], _, h => by cases h
  | p :: r, nd, h => by
    rw [List.map_cons, List.nodup_cons] at nd
    rw [dGet_cons]
    rcases List.mem_cons.mp h with e | h
    · subst e; rw [if_pos rfl]
    · rw [if_neg, dGet_some nd.2 h]
      intro e
      exact nd.1 (List.mem_map.mpr ⟨_, h, e.symm⟩)
theorem dPut_new {kvs : List (D × D)} {k v : D} (h : ∀ p ∈ kvs, p.1 ≠ k) : dPut kvs k v = kvs ++ [(k, v)] := by
  unfold dPut
  rw [dGet_none h]
  rfl
theorem merge_new : ∀ {ps acc : List (D × D)}, ((acc ++ ps).map (·.1)).Nodup → mergeD acc ps = acc ++ ps
  | [], acc, _ => by simp [mergeD]
  | p :: ps, acc, h => by
    have h1 : ∀ q ∈ acc, q.1 ≠ p.1 := by
      intro q hq e
      rw [List.map_append, List.map_cons] at h
      have := (List.nodup_append.mp h).2.2 q.1 (List.mem_map.mpr ⟨q, hq, rfl⟩) p.1 List.mem_cons_self
      exact this e
    have : mergeD acc (p :: ps) = mergeD (dPut acc p.1 p.2) ps := rfl
    rw [this, dPut_new h1, merge_new (by simpa using h)]
    simp
theorem dIx_dct {kvs : List (D × D)} {k : D} (h : dKeyOk k = true) : dIx (.dct false kvs) k = ixC (dGet kvs k) := by
  have : dIx (.dct false kvs) k = (if dKeyOk k = true then match dGet kvs k with | some d => Res.ok d | none => .bad else .bad) := by cases k <;> rfl
  rw [this, if_pos h]
  cases dGet kvs k <;> rfl
theorem dIn_dct {neg : Bool} {kvs : List (D × D)} {k : D} (h : dKeyOk k = true) : dIn neg k (.dct false kvs) = .ok (.bl (neg ^^ (dGet kvs k).isSome)) := by
  have : dIn neg k (.dct false kvs) = if dKeyOk k = true then .ok (.bl (neg ^^ (dGet kvs k).isSome)) else .bad := by cases k <;> rfl
  rw [this, if_pos h]
@[simp] theorem dSum_ints {ns : List Int} : dSum [.lst (ns.map D.int)] = .ok (.int ns.sum) := by
  show (match asInts (ns.map D.int) with | some ns => Res.ok (D.int ns.sum) | none => .bad) = _
  rw [asInts_map]
@[simp] theorem dMax2_e {i j : Int} : dMax2 [.int i, .int j] = .ok (.int (if j > i then j else i)) := id rfl
@[simp] theorem dMin2_e {i j : Int} : dMin2 [.int i, .int j] = .ok (.int (if j < i then j else i)) := id rfl
@[simp] theorem dList_lst {ds : List D} : dList [.lst ds] = .ok (.lst ds) := id rfl
/-! comparisons -/
mutual
theorem pyEq_self : ∀ {d : D}, okD d = true → pyEq d d = true
  | .non, _ => rfl
  | .bl b, _ => by cases b <;> rfl
  | .int i, _ => by unfold pyEq; simp
  | .str z, _ => by unfold pyEq; simp
  | .lst ds, o => by unfold pyEq; exact pyEqAll_self o
  | .tup ds, o => by unfold pyEq; exact pyEqAll_self o
  | .scr _, o => by cases o
  | .dct _ _, o => by cases o
  | .exc _ _, o => by cases o
theorem pyEqAll_self : ∀ {ds : List D}, okAll ds = true → pyEqAll ds ds = true
  | [], _ => rfl
  | d :: ds, o => by
    simp only [okAll, Bool.and_eq_true] at o
    unfold pyEqAll
    rw [pyEq_self o.1, pyEqAll_self o.2]
    rfl
end
theorem dEq_of {a b : D} (ha : lay a = true) (hb : lay b = true) : dEq a b = .ok (.bl (pyEq a b)) := if_pos (by rw [ha, hb]; simp)
theorem dNe_of {a b : D} (ha : lay a = true) (hb : lay b = true) : dNe a b = .ok (.bl (!pyEq a b)) := if_pos (by rw [ha, hb]; simp)
theorem dEq_self {a : D} (ha : lay a = true) : dEq a a = .ok (.bl true) := by rw [dEq_of ha ha, pyEq_self (lay_ok ha)]
/-! what may be compared: texts of letters -/
def Asc (w : List Nat) : Prop := ∀ c ∈ w, c < 128
theorem okD_txt {w : List Nat} (h : Asc w) : okD (.str (Dear.txt w)) = true := by
  show ((Dear.txt w).cps.toList.all fun c => decide (c < 128)) = true
  have e : (Dear.txt w).cps.toList = w := Dear.txt_list _
  rw [e]
  exact List.all_eq_true.mpr fun c hc => decide_eq_true (h c hc)
theorem okAll_of : ∀ {ds : List D}, (∀ d ∈ ds, okD d = true) → okAll ds = true
  | [], _ => rfl
  | d :: ds, h => by
    simp only [okAll, Bool.and_eq_true]
    exact ⟨h d List.mem_cons_self, okAll_of fun e he => h e (List.mem_cons_of_mem _ he)⟩
theorem depAll_of {n : Nat} : ∀ {ds : List D}, (∀ d ∈ ds, dep d ≤ n) → depAll ds ≤ n
  | [], _ => Nat.zero_le _
  | d :: ds, h => by
    show max (dep d) (depAll ds) ≤ n
    exact Nat.max_le.mpr ⟨h d List.mem_cons_self, depAll_of fun e he => h e (List.mem_cons_of_mem _ he)⟩
/-- may be compared, n deep at most -/
def Ly (n : Nat) (d : D) : Prop := okD d = true ∧ dep d ≤ n
theorem Ly.lay {n : Nat} {d : D} (h : Ly n d) (hn : n ≤ 60) : lay d = true := by
  unfold Du.lay
  rw [h.1, decide_eq_true (Nat.le_trans h.2 hn)]
  rfl
theorem Ly.mono {n m : Nat} {d : D} (h : Ly n d) (hn : n ≤ m) : Ly m d := ⟨h.1, Nat.le_trans h.2 hn⟩
theorem Ly.lst {n : Nat} {ds : List D} (h : ∀ d ∈ ds, Ly n d) : Ly (n + 1) (.lst ds) := ⟨okAll_of fun d hd => (h d hd).1, by
  show depAll ds + 1 ≤ n + 1
  have := depAll_of fun d hd => (h d hd).2
  omega⟩
theorem Ly.tup {n : Nat} {ds : List D} (h : ∀ d ∈ ds, Ly n d) : Ly (n + 1) (.tup ds) := ⟨okAll_of fun d hd => (h d hd).1, by
  show depAll ds + 1 ≤ n + 1
  have := depAll_of fun d hd => (h d hd).2
  omega⟩
theorem Ly.non {n : Nat} : Ly n .non := ⟨rfl, Nat.zero_le _⟩
theorem Ly.bl {n : Nat} {b : Bool} : Ly n (.bl b) := ⟨rfl, Nat.zero_le _⟩
theorem Ly.int {n : Nat} {b : Int} : Ly n (.int b) := ⟨rfl, Nat.zero_le _⟩
theorem Ly.txt {n : Nat} {w : List Nat} (h : Asc w) : Ly n (.str (Dear.txt w)) := ⟨okD_txt h, Nat.zero_le _⟩
theorem forall_cons {α : Type} {P : α → Prop} {a : α} {l : List α} (h : P a) (t : ∀ x ∈ l, P x) : ∀ x ∈ a :: l, P x := fun x hx => by
  rcases List.mem_cons.mp hx with e | e
  · rw [e]; exact h
  · exact t x e
theorem forall_nil {α : Type} {P : α → Prop} : ∀ x ∈ ([] : List α), P x := fun _ h => nomatch h
end
end Du
namespace Du
open PySem PySem.Spec PyProof.Rows L2
/-! ### one step at a time -/
section
variable {g h : Env → Out} {ρ ρ' : Env} {L : List Nat} {o : Out}
theorem seq_to (h1 : g ρ = .nx ρ') (h2 : h ρ' = o) : sSeq g h ρ = o := by rw [sSeq_e, h1]; exact h2
theorem for_to {it : VEnv → Res (List D)} {tg : Tgt} {l : List Nat} {ds : List D} (h1 : it (view L ρ) = .ok ds) (h2 : shut L ρ = ρ') (h3 : forL tg g l ds ρ' = o) : sFor L it tg g l ρ = o := by rw [sFor_e, h1, atR_ok, sForC_e, h2, h3]
theorem asg_to {f : VEnv → Res D} {i : Nat} {d : D} (h1 : f (view L ρ) = .ok d) : sAsg L f (tgN i) ρ = .nx ((aft L d ρ).set i (some (.frz d))) := by rw [sAsg_e, h1]; rfl
theorem own_to {f : VEnv → Res D} {i : Nat} {d : D} (h1 : f (view L ρ) = .ok d) : sOwn i L f ρ = .nx ((aftO L d ρ).set i (some (.own false d))) := by rw [sOwn_e, h1]; rfl
end
end Du
namespace Du
open PySem PySem.Spec PyProof.Rows L2
/-! ### comprehensions over what is made of a list -/
theorem compL_map {α : Type} {F : α → D} {tg : Tgt} {c : VEnv → Res Bool} {f : VEnv → Res D} {ρ : VEnv} {vs : List Nat} {p : α → Bool} {q : α → D} : ∀ {l : List α}, (∀ a ∈ l, ∃ as, tg (F a) = .ok as ∧ as.all (fun p => vs.contains p.1) = true ∧ c (setAllD ρ as) = .ok (p a) ∧ (p a = true → f (setAllD ρ as) = .ok (q a))) → compL tg c f ρ vs (l.map F) = .ok ((l.filter p).map q)
  | [], _ => rfl
  | d :: ds, h => by
    obtain ⟨as, h1, h2, h3, h4⟩ := h d List.mem_cons_self
    have ih := compL_map (l := ds) fun x hx => h x (List.mem_cons_of_mem _ hx)
    rw [List.map_cons]
    unfold compL
    rw [h1, Res.bind_ok, if_pos h2, h3, Res.bind_ok]
    cases hp : p d with
    | true => rw [if_pos rfl, h4 hp, Res.bind_ok, ih, Res.bind_ok, List.filter_cons, hp, if_pos rfl, List.map_cons]
    | false => rw [if_neg Bool.false_ne_true, ih, List.filter_cons, hp, if_neg Bool.false_ne_true]
theorem eComp_map {α : Type} {F : α → D} {tg : Tgt} {c : VEnv → Res Bool} {f : VEnv → Res D} {ρ : VEnv} {vs : List Nat} {it : VEnv → Res (List D)} {l : List α} (p : α → Bool) (q : α → D) (hi : it ρ = .ok (l.map F)) (hl : l.length ≤ 16777215)
    (h : ∀ a ∈ l, ∃ as, tg (F a) = .ok as ∧ as.all (fun p => vs.contains p.1) = true ∧ c (setAllD (wipeD ρ vs) as) = .ok (p a) ∧ (p a = true → f (setAllD (wipeD ρ vs) as) = .ok (q a))) : eComp vs it tg c f ρ = .ok (.lst ((l.filter p).map q)) := by
  unfold eComp
  rw [hi, Res.bind_ok, if_pos (fit_of (by rw [List.length_map]; exact hl)), compL_map h]
  rfl
/-- .. none left out -/
theorem eComp_all {α : Type} {F : α → D} {tg : Tgt} {f : VEnv → Res D} {ρ : VEnv} {vs : List Nat} {it : VEnv → Res (List D)} {l : List α} (q : α → D) (hi : it ρ = .ok (l.map F)) (hl : l.length ≤ 16777215)
    (h : ∀ a ∈ l, ∃ as, tg (F a) = .ok as ∧ as.all (fun p => vs.contains p.1) = true ∧ f (setAllD (wipeD ρ vs) as) = .ok (q a)) : eComp vs it tg bYes f ρ = .ok (.lst (l.map q)) := by
  rw [eComp_map (fun _ => true) q hi hl fun a ha => by
    obtain ⟨as, h1, h2, h3⟩ := h a ha
    exact ⟨as, h1, h2, bYes_e, fun _ => h3⟩, List.filter_eq_self.mpr fun _ _ => rfl]
end Du
namespace Du
open PySem PySem.Spec PyProof.Rows L2
theorem pyEq_nil {ds : List D} : pyEq (.lst ds) (.lst []) = ds.isEmpty := by cases ds <;> rfl
theorem lay_nil : lay (.lst []) = true := rfl
theorem dNe_nil {ds : List D} (h : ∀ d ∈ ds, Ly 50 d) : dNe (.lst ds) (.lst []) = .ok (.bl (!ds.isEmpty)) := by
  rw [dNe_of ((Ly.lst h).lay (by decide)) lay_nil, pyEq_nil]
end Du
namespace Du
open PySem PySem.Spec PyProof.Rows L2
theorem dSl_take {w : List Nat} {j : Nat} (h : w.length ≤ 16777215) : dSl (.str (Dear.txt w)) none (some (j : Int)) = .ok (.str (Dear.txt (w.take j))) := by
  show (if fit (Dear.txt w).length = true then Res.ok (D.str (cutS (Dear.txt w) none (some (j : Int)))) else .bad) = _
  rw [if_pos (fit_of (by rw [Dear.txt_length]; exact h)), Dear.cut_pre]
end Du
namespace Du
open PySem PySem.Spec PyProof.Rows L2
@[simp] theorem imms_strs {α : Type} {f : α → Str} : ∀ {l : List α}, imms (l.map fun a => D.str (f a)) = true
  | [] => rfl
  | a :: l => by
    rw [List.map_cons, imms_cons, imms_strs]
    rfl
@[simp] theorem imms_ints {α : Type} {f : α → Int} : ∀ {l : List α}, imms (l.map fun a => D.int (f a)) = true
  | [] => rfl
  | a :: l => by
    rw [List.map_cons, imms_cons, imms_ints]
    rfl
end Du
namespace Du
open PySem PySem.Spec PyProof.Rows L2
/-! ### exceptions, reckoned -/
@[simp] theorem cons2_exc {x : Ex} {r : Res (List D)} : cons2 (.exc x) r = .exc x := id rfl
@[simp] theorem cons2_exc2 {a : D} {x : Ex} : cons2 (.ok a) (.exc x) = .exc x := id rfl
@[simp] theorem op2_exc {g : D → D → Res D} {x : Ex} {r : Res D} : op2 g (.exc x) r = .exc x := by cases r <;> rfl
@[simp] theorem op2_exc2 {g : D → D → Res D} {a : D} {x : Ex} : op2 g (.ok a) (.exc x) = .exc x := id rfl
end Du

namespace Du
open PySem PySem.Spec PyProof.Rows L2
/-! ### tuple keys, own lists gone through: reckoned -/
section
variable {ρ ρ1 ρ2 : Env} {L : List Nat}
theorem eGet2T_of {fo fk fd : VEnv → Res D} {ρ : VEnv} {kvs : List (D × D)} {n e : D} (h0 : fo ρ = .ok (.dct true kvs)) (h1 : fk ρ = .ok n) (h3 : fd ρ = .ok e) (h2 : tKeyOk n = true) : eGet2T fo fk fd ρ = .ok ((dGet kvs n).getD e) := by
  unfold eGet2T
  rw [h0, Res.bind_ok]
  dsimp only
  rw [h1, Res.bind_ok, h3, Res.bind_ok, if_pos h2]
@[simp] theorem dLenT_e {kvs : List (D × D)} : dLenT [.dct true kvs] = .ok (.int kvs.length) := id rfl
end
end Du

namespace Du
open PySem PySem.Spec PyProof.Rows L2
/-! ### and, or as values, reckoned -/
def mAndVC (n : Env → MO D) (a : D) (ρ : Env) : MO D := match a with
  | .bl true => n ρ
  | .bl false => .ok (.bl false) ρ
  | _ => .bad
def mOrVC (n : Env → MO D) (a : D) (ρ : Env) : MO D := match a with
  | .bl true => .ok (.bl true) ρ
  | .bl false => n ρ
  | _ => .bad
@[simp] theorem mAndVC_t {n : Env → MO D} {ρ : Env} : mAndVC n (.bl true) ρ = n ρ := id rfl
@[simp] theorem mAndVC_f {n : Env → MO D} {ρ : Env} : mAndVC n (.bl false) ρ = .ok (.bl false) ρ := id rfl
@[simp] theorem mOrVC_t {n : Env → MO D} {ρ : Env} : mOrVC n (.bl true) ρ = .ok (.bl true) ρ := id rfl
@[simp] theorem mOrVC_f {n : Env → MO D} {ρ : Env} : mOrVC n (.bl false) ρ = n ρ := id rfl
@[simp] theorem mAndV_e {m n : Env → MO D} {ρ : Env} : mAndV m n ρ = md (mAndVC n) (m ρ) := id rfl
@[simp] theorem mOrV_e {m n : Env → MO D} {ρ : Env} : mOrV m n ρ = md (mOrVC n) (m ρ) := id rfl
end Du

namespace Du
open PySem PySem.Spec PyProof.Rows L2 Dear
/-! ### what every law's front shares: fractions, tongues, texts -/
@[simp] theorem F_is_whole_int (i : Int) : F_is_whole [.int i] = .ok (.bl true) := by rfl
theorem is_fr (x y : Int) (r : Int) (h : F_divisor [.int y, .int (if x < 0 then -x else x)] = .ok (.int r)) (h1 : 1 ≤ y) : F_is_fraction [.tup [.int x, .int y]] = .ok (.bl (decide (r = 1))) := by
  show outR (B_is_fraction [some (.frz (.tup [.int x, .int y])), none, none]) = _
  simp [B_is_fraction, dLen, h, show ¬ y < 1 by omega]
theorem divisor_e : ∀ (n : Nat) (a : Nat), F_divisor [.int a, .int n] = .ok (.int (Nat.gcd n a)) := by
  have key : ∀ (n a : Nat), outR (B_divisor [some (.frz (.int a)), some (.frz (.int n))]) = .ok (.int (Nat.gcd n a)) := by
    intro n
    induction n using Nat.strongRecOn with
    | ind n ih =>
      intro a
      unfold B_divisor
      rw [sSeq_e, sWhile_e]
      by_cases hn : n = 0
      · subst hn
        simp
      · have hp : 0 < n := by omega
        have := ih (a % n) (Nat.mod_lt _ (by omega)) n
        unfold B_divisor at this
        rw [sSeq_e] at this
        simp [hp, B_divisor_1_u]
        rw [← Int.natCast_emod, this, Nat.gcd_rec n a]
  intro n a
  exact key n a
/-- a price: a fraction above nothing, lowest terms -/
def Price (d : D) : Prop := ∃ x y : Nat, d = .tup [.int x, .int y] ∧ 0 < x ∧ 0 < y ∧ Nat.gcd x y = 1 ∧ x < 2 ^ 62 ∧ y < 2 ^ 62
structure Tg where
  signs : List (Nat × D × D)
  firsts : List (List Nat)
  pairs : List (List Nat)
  long : Nat
def rowD (r : Nat × D × D) : D := .tup [.str (txt [r.1]), r.2.1, r.2.2]
abbrev txs (l : List (List Nat)) : D := .lst (l.map fun v => .str (txt v))
def Tg.d (T : Tg) : D := .tup [.lst (T.signs.map rowD), txs T.firsts, txs T.pairs, .int T.long]
/-- may the sign c come behind what ends on l (no sign, or one)? -/
def Tg.comes (T : Tg) (l : List Nat) (c : Nat) : Bool := if l = [] then !decide ([c] ∈ T.firsts) else !decide (l ++ [c] ∈ T.pairs)
/-- the texts one sign longer than w -/
def Tg.longer (T : Tg) (w : List Nat) : List (List Nat) := (T.signs.filter fun r => T.comes (lastL w) r.1).map fun r => w ++ [r.1]
def Tg.step (T : Tg) (l : List (List Nat)) : List (List Nat) := l.flatMap T.longer
def Tg.level (T : Tg) : Nat → List (List Nat)
  | 0 => [[]]
  | n + 1 => T.step (T.level n)
/-- all texts up to n signs, shorter ones first -/
def Tg.upto (T : Tg) : Nat → List (List Nat)
  | 0 => []
  | n + 1 => T.upto n ++ T.level (n + 1)
theorem rng_e (n : Nat) (h : n ≤ 1000) : dRange [.int (n : Nat)] = .ok ((List.range' 0 n).map fun i => D.int (i : Nat)) := by
  rw [dRange1 (by omega) (by omega), Int.toNat_natCast]
  unfold rangeD
  rw [List.range_eq_range']
  congr 1
  refine List.map_congr_left fun i _ => ?_
  rw [Int.zero_add]
/-- a source of draws: what is left of the cell, and the seed -/
def Src (d : D) : Prop := ∃ c s : Int, d = .lst [.int c, .int s] ∧ 0 ≤ s ∧ s < 2 ^ 31
end Du

namespace Du
open PySem PySem.Spec PyProof.Rows L2 Dear
/-! ### draws (the same in the laws of author A and B) -/
theorem draw_e {m : Int} (hm : 0 < m) (hw : m < 2 ^ 64) {d : D} (h : Src d) : ∃ k d', F__law_draw [d, .int m] = .ok (.int k, d') ∧ 0 ≤ k ∧ k < m ∧ Src d' := by
  obtain ⟨c, s, rfl, h0, h1⟩ := h
  show ∃ k d', outIO 0 (B__law_draw [some (.own true (.lst [.int c, .int s])), some (.frz (.int m)), none]) = _ ∧ _
  by_cases hc : 0 < c
  · refine ⟨c % m, _, ?_, Int.emod_nonneg _ (by omega), Int.emod_lt_of_pos _ hm, c / m, s, rfl, h0, h1⟩
    simp [B__law_draw, hc, hm, cdiv (a := c) hm hw]
  · have e0 : 0 ≤ (s * 48271 + 11) % 2147483647 := by omega
    have e1 : (s * 48271 + 11) % 2147483647 < 2147483647 := by omega
    refine ⟨(s * 48271 + 11) % 2147483647 * ((s * 48271 + 11) % 2147483647) % 2147483629 / 64 % m, _, ?_, Int.emod_nonneg _ (by omega), Int.emod_lt_of_pos _ hm, c, (s * 48271 + 11) % 2147483647, rfl, e0, by omega⟩
    have f1 := cmul (a := s) (b := 48271) (by omega) (by omega) (by omega) (by omega)
    have f2 := cmul (a := (s * 48271 + 11) % 2147483647) (b := (s * 48271 + 11) % 2147483647) (by omega) (by omega) (by omega) (by omega)
    have f3 := cdiv (a := (s * 48271 + 11) % 2147483647 * ((s * 48271 + 11) % 2147483647) % 2147483629) (b := 64) (by omega) (by omega)
    simp [B__law_draw, hc, hm, f1, f2, f3]
end Du

namespace Du
open PySem PySem.Spec PyProof.Rows L2 Dear
/-! ### the front of author A's laws -/
theorem cell_at (ns : List Int) (hl : ns.length ≤ 63) (k : Nat) : ∃ c : Int, F__law_cell_at [.scr ns, .int k] = .ok (.int c) ∧ (c = 0 ∨ c ∈ ns) := by
  show ∃ c : Int, outR (B__law_cell_at [some (.frz (.scr ns)), some (.frz (.int k))]) = _ ∧ _
  by_cases h : k < ns.length
  · refine ⟨ns[k], ?_, .inr (List.getElem_mem h)⟩
    have e : atI ns (k : Int) = some ns[k] := by rw [atI_nat (by omega), Int.toNat_natCast, List.getElem?_eq_getElem h]
    simp [B__law_cell_at, dLen_scr (ds := ns) (by omega), dIx_scr, e, h]
  · exact ⟨0, by simp [B__law_cell_at, dLen_scr (ds := ns) (by omega), h], .inl rfl⟩
theorem source_e (c : Int) (k : Nat) (hk : k ≤ 63) : ∃ d, F__law_source [.int c, .int k] = .ok d ∧ Src d := by
  have f1 := cmulL (a := 104729) (b := k) (by omega) (by omega)
  have f2 := cmul (a := c % 1000003 + 104729 * k + 7) (b := 48271) (by omega) (by omega) (by omega) (by omega)
  refine ⟨.lst [.int (c * (if decide ((10 : Int) ^ 18 ≤ c) = true then 1 else 0)), .int ((c % 1000003 + 104729 * k + 7) * 48271 % 2147483647)], ?_, _, _, rfl, by omega, by omega⟩
  show outO (B__law_source [some (.frz (.int c)), some (.frz (.int k)), none]) = _
  have f4 : CMulA c (if (1000000000000000000 : Int) ≤ c then 1 else 0) := cmulR (by split <;> omega) (by split <;> omega)
  simp [B__law_source, f1, f2, f4]
def st1 (T : Tg) (f a : D) (k : Int) (acc : List (List Nat)) (x5 : Option Slot) : Env := [some (.frz T.d), some (.frz f), some (.frz a), some (.frz (.int k)), some (.own false (txs acc)), x5, none, none, none]
def st3 (T : Tg) (f a : List (List Nat)) : Env := [some (.frz T.d), some (.frz (txs f)), some (.frz (txs a)), none, none, none, none, none, none]
end Du

namespace Du
open PySem PySem.Spec PyProof.Rows L2 Dear
/-! ### the program lets a good tongue by -/
theorem dAll_true {α : Type} (l : List α) (q : α → D) (h : ∀ a ∈ l, q a = .bl true) : dAll [.lst (l.map q)] = .ok (.bl true) := by
  have e : l.map q = (l.map fun _ => true).map D.bl := by
    rw [List.map_map]
    exact List.map_congr_left fun a ha => by rw [h a ha]; rfl
  rw [e]
  show (match asBls _ with | some bs => Res.ok (D.bl (bs.all id)) | none => .bad) = _
  rw [asBls_map]
  simp
theorem filter_yes {l : List D} : l.filter (fun _ => true) = l := List.filter_eq_self.mpr fun _ _ => rfl
theorem is_fraction_e {d : D} (h : Price d) : F_is_fraction [d] = .ok (.bl true) := by
  obtain ⟨x, y, rfl, h1, h2, h3, h4, h5⟩ := h
  have e := divisor_e x y
  have := is_fr x y (Nat.gcd x y : Nat) (by rw [if_neg (by omega)]; exact e) (by omega)
  rw [this, h3]
  rfl
theorem is_price_e {d : D} (h : Price d) : F_is_price [d] = .ok (.bl true) := by
  have e := is_fraction_e h
  obtain ⟨x, y, rfl, h1, h2, h3, h4, h5⟩ := h
  show outR (B_is_price [some (.frz (.tup [.int x, .int y]))]) = _
  simp [B_is_price_u, e, h1]
theorem abc_mem (c : Nat) (h1 : 97 ≤ c) (h2 : c ≤ 122) : c ∈ (Str.ofString "abcdefghijklmnopqrstuvwxyz").cps.toList := by
  have : ∀ i : Fin 26, 97 + i.val ∈ (Str.ofString "abcdefghijklmnopqrstuvwxyz").cps.toList := by decide +kernel
  have := this ⟨c - 97, by omega⟩
  rwa [show 97 + (c - 97) = c by omega] at this
theorem dIn_sign {neg : Bool} {c : Nat} {b : Str} : dIn neg (.str (txt [c])) (.str b) = .ok (.bl (neg ^^ decide (c ∈ b.cps.toList))) := rfl
theorem is_letter_e {c : Nat} (h1 : 97 ≤ c) (h2 : c ≤ 122) : F_is_letter [.str (txt [c])] = .ok (.bl true) := by
  show outR (B_is_letter [some (.frz (.str (txt [c])))]) = _
  simp [B_is_letter_u, txt_length, dIn_sign, abc_mem c h1 h2]
structure GoodRow (r : Nat × D × D) : Prop where
  lo : 97 ≤ r.1
  hi : r.1 ≤ 122
  pr : Price r.2.1
  la : r.2.2 = .non ∨ Price r.2.2
theorem is_sign_e {r : Nat × D × D} (h : GoodRow r) : F_is_sign [rowD r] = .ok (.bl true) := by
  show outR (B_is_sign [some (.frz (rowD r)), none, none, none]) = _
  rcases h.la with e | e
  · simp [B_is_sign_u, rowD, is_letter_e h.lo h.hi, is_price_e h.pr, e]
  · have e2 : isNon r.2.2 = false := by obtain ⟨x, y, e3, _⟩ := e; rw [e3]; rfl
    simp [B_is_sign_u, rowD, is_letter_e h.lo h.hi, is_price_e h.pr, is_price_e e, e2]
/-- what every law's tongue has -/
structure Good (T : Tg) : Prop where
  lo : 2 ≤ T.signs.length
  hi : T.signs.length ≤ 6
  row : ∀ r ∈ T.signs, GoodRow r
  nd : (T.signs.map (·.1)).Nodup
  fs : ∀ v ∈ T.firsts, ∃ c, v = [c] ∧ c ∈ T.signs.map (·.1)
  fnd : T.firsts.Nodup
  ps : ∀ v ∈ T.pairs, ∃ a b, v = [a, b] ∧ a ∈ T.signs.map (·.1) ∧ b ∈ T.signs.map (·.1)
  pnd : T.pairs.Nodup
  fl : T.firsts.length ≤ 1000
  pl : T.pairs.length ≤ 1000
  l0 : 1 ≤ T.long
  l1 : T.long ≤ 8
theorem dd_len' {l : List Str} (h : l.Nodup) : (Dear.dd l).length = l.length := by
  unfold Dear.dd
  rw [Dear.dd_nodup [] h]
  rfl
theorem are_signs_e {T : Tg} (h : Good T) : F_are_signs [.lst (T.signs.map rowD)] = .ok (.bl true) := by
  have h0 := h.lo
  have h1 := h.hi
  have hl : (T.signs.map rowD).length ≤ 16777215 := by rw [List.length_map]; omega
  have c1 : eComp [1] (iAny (eVar 0)) (tgN 1) bYes (eCall F_is_sign (aCons (eVar 1) aNil)) [some (.lst (T.signs.map rowD)), none] = .ok (.lst ((T.signs.map rowD).map fun _ => .bl true)) := by
    rw [eComp_of (ds := T.signs.map rowD) (fun _ => true) (fun _ => .bl true) (by simp) hl, filter_yes]
    intro d hd
    obtain ⟨r, hr, rfl⟩ := List.mem_map.mp hd
    refine ⟨_, rfl, by simp, by simp, fun _ => ?_⟩
    simp [is_sign_e (h.row r hr)]
  have c2 : eComp [1] (iAny (eVar 0)) (tgN 1) bYes (eOp dIx (eVar 1) (eC (.int 0))) [some (.lst (T.signs.map rowD)), none] = .ok (.lst ((T.signs.map fun r => txt [r.1]).map D.str)) := by
    have : (T.signs.map fun r => txt [r.1]).map D.str = ((T.signs.map rowD)).map fun d => match d with | .tup (x :: _) => x | _ => .non := by
      rw [List.map_map, List.map_map]
      exact List.map_congr_left fun r _ => rfl
    rw [this, eComp_of (ds := T.signs.map rowD) (fun _ => true) (fun d => match d with | .tup (x :: _) => x | _ => .non) (by simp) hl, filter_yes]
    intro d hd
    obtain ⟨r, hr, rfl⟩ := List.mem_map.mp hd
    refine ⟨_, rfl, by simp, by simp, fun _ => ?_⟩
    simp [rowD]
  have a1 := dAll_true T.signs ((fun _ => D.bl true) ∘ rowD) (fun _ _ => rfl)
  have nd : (T.signs.map fun r => txt [r.1]).Nodup := by
    exact List.pairwise_map.mpr ((List.pairwise_map.mp h.nd).imp fun hne e => hne (by simpa using txt_inj e))
  have c3 : eLenSet (eComp [1] (iAny (eVar 0)) (tgN 1) bYes (eOp dIx (eVar 1) (eC (.int 0)))) [some (.lst (T.signs.map rowD)), none] = .ok (.int T.signs.length) := by
    unfold eLenSet
    rw [c2, Res.bind_ok]
    show (match asStrs _ with | some zs => _ | none => _) = _
    rw [asStrs_map]
    have e := dd_len' nd
    rw [List.length_map] at e
    dsimp only
    rw [if_pos (Nat.ble_eq_true_of_le (by rw [List.length_map]; omega)), e]
  show outR (B_are_signs [some (.frz (.lst (T.signs.map rowD))), none]) = _
  simp [B_are_signs_u, show T.signs.length ≤ 16777215 by omega, show (2 : Int) ≤ T.signs.length by omega, show (T.signs.length : Int) ≤ 6 by omega, c1, a1, c3]
theorem cutD_pre {α : Type} {xs : List α} {j : Nat} : cutD xs none (some (j : Int)) = xs.take j := by
  unfold cutD
  rw [HT.sIx_none, HT.sIx_nat, List.drop_zero, Nat.sub_zero]
  by_cases h : j ≤ xs.length
  · rw [Nat.min_eq_left h]
  · rw [Nat.min_eq_right (by omega), List.take_length, List.take_of_length_le (by omega)]
theorem numbered_mem : ∀ {ds : List D} {k : Nat} {d : D}, d ∈ numbered k ds → ∃ i x, ds[i]? = some x ∧ d = .tup [.int ((k + i : Nat) : Int), x]
  | [], _, _, h => by cases h
  | x :: r, k, d, h => by
    rcases List.mem_cons.mp (show d ∈ _ :: numbered (k + 1) r from h) with e | e
    · exact ⟨0, x, rfl, by rw [e]; rfl⟩
    · obtain ⟨i, y, h1, h2⟩ := numbered_mem e
      exact ⟨i + 1, y, h1, by rw [h2, show k + 1 + i = k + (i + 1) by omega]⟩
theorem unlike_e {l : List (List Nat)} {n : Nat} {cs : List Nat} (hn : n ≤ 1000) (hl : l.length ≤ 16777215) (nd : l.Nodup) (h : ∀ v ∈ l, v.length = n ∧ ∀ c ∈ v, c ∈ cs) : F_are_unlike_texts [txs l, .int n, txs (cs.map fun c => [c])] = .ok (.bl true) := by
  have turn : ∀ d ∈ numbered 0 (l.map fun v => D.str (txt v)), ∃ as ρ', tgT [(tgN 3), (tgN 4)] d = .ok as ∧ B_are_unlike_texts_1 (setS [some (.frz (txs l)), some (.frz (.int n)), some (.frz (txs (cs.map fun c => [c]))), none, none, none] as) = .nx ρ' ∧ clr [3, 4, 5] ρ' = [some (.frz (txs l)), some (.frz (.int n)), some (.frz (txs (cs.map fun c => [c]))), none, none, none] := by
    intro d hd
    obtain ⟨i, x, h1, rfl⟩ := numbered_mem hd
    rw [Nat.zero_add]
    rw [List.getElem?_map] at h1
    obtain ⟨v, h2, rfl⟩ := Option.map_eq_some_iff.mp h1
    have hv := h v (List.mem_of_getElem? h2)
    have ni : ¬ v ∈ l.take i := by
      intro m
      obtain ⟨k, hk, e⟩ := List.mem_iff_getElem.mp m
      rw [List.getElem_take] at e
      rw [List.length_take] at hk
      obtain ⟨hi, e2⟩ := List.getElem?_eq_some_iff.mp h2
      have := (List.getElem_inj nd).mp (e.trans e2.symm)
      omega
    have c1 : ∀ x5, eComp [5] (iAny (eVar 4)) (tgN 5) bYes (eOp (dIn false) (eVar 5) (eVar 2)) [some (txs l), some (.int n), some (txs (cs.map fun c => [c])), some (.int i), some (.str (txt v)), x5] = .ok (.lst (v.map fun _ => D.bl true)) := by
      intro x5
      have sv : signs (txt v) = v.map fun c => D.str (txt [c]) := by unfold signs; rw [txt_list]; rfl
      rw [eComp_of (ds := signs (txt v)) (fun _ => true) (fun _ => .bl true) (by simp) (by rw [sv, List.length_map, hv.1]; omega), filter_yes, sv, List.map_map]
      · rfl
      · intro d hd
        rw [sv] at hd
        obtain ⟨c, hc, rfl⟩ := List.mem_map.mp hd
        refine ⟨_, rfl, by simp, by simp, fun _ => ?_⟩
        have hcs := hv.2 c hc
        have := dIn_txts (neg := false) (w := [c]) (l := cs.map fun c => [c])
        simp [hcs] at this
        simp [txs, this]
    have a1 := dAll_true v (fun _ => D.bl true) (fun _ _ => rfl)
    have i1 : dIn false (.str (txt v)) (.lst ((l.map fun v => D.str (txt v)).take i)) = .ok (.bl false) := by rw [← List.map_take, dIn_txts]; simp [ni]
    have s1 : dSl (txs l) none (some (i : Int)) = .ok (.lst ((l.map fun v => D.str (txt v)).take i)) := by
      show Res.ok (D.lst (cutD _ none _)) = _
      rw [cutD_pre]
    refine ⟨_, [some (.frz (txs l)), some (.frz (.int n)), some (.frz (txs (cs.map fun c => [c]))), some (.frz (.int i)), some (.frz (.str (txt v))), none], rfl, ?_, rfl⟩
    have c2 := c1 none
    have l1 : v.length ≤ 16777215 := by rw [hv.1]; omega
    simp [B_are_unlike_texts_1_u, txt_length, hv.1, s1, i1, c2, a1, show n ≤ 16777215 by omega]
  show outR (B_are_unlike_texts [some (.frz (txs l)), some (.frz (.int n)), some (.frz (txs (cs.map fun c => [c]))), none, none, none]) = _
  have f := forL_same turn
  have e1 : dEnum [txs l] = .ok (numbered 0 (l.map fun v => D.str (txt v))) := rfl
  have k1 : isKind "list" (txs l) = .ok (.bl true) := by simp
  simp [B_are_unlike_texts_u, e1, f, k1]
theorem look_e {T : Tg} (h : Good T) : F_look_at_tongue [T.d] = .ok .non := by
  have h0 := h.lo
  have h1 := h.hi
  have hl : (T.signs.map rowD).length ≤ 16777215 := by rw [List.length_map]; omega
  have c2 : ∀ x0 x2 x3 x4 x5 : Option D, eComp [6] (iAny (eVar 1)) (tgN 6) bYes (eOp dIx (eVar 6) (eC (.int 0))) [x0, some (.lst (T.signs.map rowD)), x2, x3, x4, x5, none] = .ok (txs ((T.signs.map (·.1)).map fun c => [c])) := by
    intro x0 x2 x3 x4 x5
    have : ((T.signs.map (·.1)).map fun c => [c]).map (fun v => D.str (txt v)) = ((T.signs.map rowD)).map fun d => match d with | .tup (x :: _) => x | _ => .non := by
      rw [List.map_map, List.map_map, List.map_map]
      exact List.map_congr_left fun r _ => rfl
    unfold txs
    rw [this, eComp_of (ds := T.signs.map rowD) (fun _ => true) (fun d => match d with | .tup (x :: _) => x | _ => .non) (by simp) hl, filter_yes]
    intro d hd
    obtain ⟨r, hr, rfl⟩ := List.mem_map.mp hd
    refine ⟨_, rfl, by simp, by simp, fun _ => ?_⟩
    simp [rowD]
  have u1 := unlike_e (n := 1) (cs := T.signs.map (·.1)) (by omega) (by have := h.fl; omega) h.fnd (fun v hv => by
    obtain ⟨c, e, m⟩ := h.fs v hv
    subst e
    exact ⟨rfl, fun x hx => by rw [List.mem_singleton.mp hx]; exact m⟩)
  have ph : ∀ v ∈ T.pairs, v.length = 2 ∧ ∀ c ∈ v, c ∈ T.signs.map (·.1) := fun v hv => by
    obtain ⟨a, b, e, m1, m2⟩ := h.ps v hv
    subst e
    refine ⟨rfl, fun x hx => ?_⟩
    rcases List.mem_cons.mp hx with e | hx
    · rw [e]; exact m1
    · rw [List.mem_singleton.mp hx]; exact m2
  have u2 := unlike_e (n := 2) (cs := T.signs.map (·.1)) (by omega) (by have := h.pl; omega) h.pnd ph
  have w1 : F_is_whole [.int (T.long : Nat)] = .ok (.bl true) := by rfl
  have l0 := h.l0
  have l1 := h.l1
  show outR (B_look_at_tongue [some (.frz T.d), none, none, none, none, none, none]) = _
  have s1 := are_signs_e h
  simp at u1 u2
  simp [B_look_at_tongue_u, Tg.d, s1, c2, u1, u2, w1, show (1 : Int) ≤ T.long by omega, show (T.long : Int) ≤ 8 by omega]
end Du

namespace Du
open PySem PySem.Spec PyProof.Rows L2 Dear
/-! ### letters by a start and a step -/
abbrev abcB : Str := "abcdefghijklmnopqrstuvwxyz"
def codeB (start step k : Nat) : Nat := 97 + (start + step * k) % 26
def Stp (st : Nat) : Prop := st = 1 ∨ st = 3 ∨ st = 7 ∨ st = 25
end Du

namespace Du
open PySem PySem.Spec PyProof.Rows L2 Dear
/-! ### the words of a tongue (plain) -/
theorem lastL_eq {w : List Nat} : lastL w = w.getLast?.toList := by
  unfold lastL
  cases w.getLast? <;> rfl
def Tg.codes (T : Tg) : List Nat := T.signs.map (·.1)
/-- may a word end with the sign c? -/
def Tg.ends (T : Tg) (c : Nat) : Bool := T.signs.any fun r => r.1 == c && !isNon r.2.2
def Tg.isW (T : Tg) (w : List Nat) : Bool := match w.getLast? with
  | some c => T.ends c
  | none => false
@[simp] theorem isW_nil {T : Tg} : T.isW [] = false := rfl
@[simp] theorem isW_snoc {T : Tg} {w : List Nat} {c : Nat} : T.isW (w ++ [c]) = T.ends c := by unfold Tg.isW; rw [List.getLast?_concat]
theorem nd_inj {α β : Type} {f : α → β} {a b : α} : ∀ {l : List α}, (l.map f).Nodup → a ∈ l → b ∈ l → f a = f b → a = b
  | [], _, h, _, _ => by cases h
  | x :: l, nd, ha, hb, e => by
    rw [List.map_cons, List.nodup_cons] at nd
    rcases List.mem_cons.mp ha with e1 | h1 <;> rcases List.mem_cons.mp hb with e2 | h2
    · rw [e1, e2]
    · exact absurd (List.mem_map.mpr ⟨b, h2, by rw [← e, e1]⟩) nd.1
    · exact absurd (List.mem_map.mpr ⟨a, h1, by rw [e, e2]⟩) nd.1
    · exact nd_inj nd.2 h1 h2 e
theorem ends_of {T : Tg} (nd : T.codes.Nodup) {r : Nat × D × D} (h : r ∈ T.signs) : T.ends r.1 = !isNon r.2.2 := by
  unfold Tg.ends
  rw [Bool.eq_iff_iff, List.any_eq_true]
  constructor
  · rintro ⟨q, hq, e⟩
    rw [Bool.and_eq_true, beq_iff_eq] at e
    have : q = r := nd_inj nd hq h e.1
    subst this
    exact e.2
  · intro e
    exact ⟨r, h, by rw [beq_self_eq_true, e]; rfl⟩
/-- can an end be reached from the sign c within k more signs? -/
def Tg.reach (T : Tg) : Nat → Nat → Bool
  | 0, c => T.ends c
  | k + 1, c => T.reach k c || T.signs.any fun r => T.reach k r.1 && T.comes [c] r.1
def Tg.codesR (T : Tg) (k : Nat) : List Nat := (T.signs.filter fun r => T.reach k r.1).map (·.1)
/-- the texts that words_of keeps -/
def Tg.stepR (T : Tg) (k : Nat) (l : List (List Nat)) : List (List Nat) := l.flatMap fun w => ((T.codesR k).filter fun c => T.comes (lastL w) c).map fun c => w ++ [c]
def Tg.okR (T : Tg) (k : Nat) (w : List Nat) : Bool := match w.getLast? with
  | some c => T.reach k c
  | none => true
@[simp] theorem okR_snoc {T : Tg} {k : Nat} {w : List Nat} {c : Nat} : T.okR k (w ++ [c]) = T.reach k c := by unfold Tg.okR; rw [List.getLast?_concat]
def Tg.words (T : Tg) : List (List Nat) := (T.upto T.long).filter T.isW
/-! how many -/
def Tg.keys (T : Tg) (n : Nat) : List (List Nat) := if n = 0 then [[]] else T.codes.map fun c => [c]
def Tg.cnt (T : Tg) (n : Nat) (k : List Nat) : Nat := (T.level n).countP fun w => decide (lastL w = k)
end Du

namespace Du
open PySem PySem.Spec PyProof.Rows L2 Dear
/-! ### levels, ranks -/
def Tg.rk (T : Tg) (c : Nat) : Nat := (T.codes.findIdx? fun x => decide (x = c)).getD 0
end Du

namespace Du
open PySem PySem.Spec PyProof.Rows L2 Dear
def sg (c : Nat) : D := .str (txt [c])
theorem signs_txt (a : List Nat) : signs (txt a) = a.map sg := by
  unfold signs
  rw [txt_list]
  rfl
end Du

namespace Du
open PySem PySem.Spec PyProof.Rows L2 Dear
abbrev abc : Str := "abcdefghijklmnopqrstuvwxyz"
end Du

namespace Du
open PySem PySem.Spec PyProof.Rows L2 Dear
/-! ### wants: things with names and counts -/
def wnD (ws : List (List Nat × Nat)) : D := .lst (ws.map fun p => .tup [.str (txt p.1), .int (p.2 : Nat)])
structure NmOk (w : List Nat) : Prop where
  lo : 1 ≤ w.length
  hi : w.length ≤ 8
  abc : ∀ c ∈ w, 97 ≤ c ∧ c ≤ 122
structure Wn (ws : List (List Nat × Nat)) : Prop where
  n1 : 1 ≤ ws.length
  n20 : ws.length ≤ 20
  nm : ∀ p ∈ ws, NmOk p.1
  nd : (ws.map (·.1)).Nodup
  ct : ∀ p ∈ ws, p.2 ≤ 1000000000
theorem is_name_g {w : List Nat} (h : NmOk w) : F_is_name [.str (txt w)] = .ok (.bl true) := by
  have h1 := h.lo
  have h8 := h.hi
  have c1 : eComp [1] (iAny (eVar 0)) (tgN 1) bYes (eOp (dIn false) (eVar 1) (eC (.str "abcdefghijklmnopqrstuvwxyz"))) [some (.str (txt w)), none] = .ok (.lst (w.map fun _ => .bl true)) := by
    refine eComp_all (F := sg) _ (by
      rw [iAny_e]
      show dItems (.str (txt w)) = _
      show Res.ok (signs (txt w)) = _
      rw [signs_txt]) (by omega) fun x hx => ⟨_, rfl, by simp, ?_⟩
    have := abc_mem x (h.abc x hx).1 (h.abc x hx).2
    simp [sg, dIn_sign, this]
  have al : dAll [.lst (w.map fun _ => .bl true)] = .ok (.bl true) := dAll_true w (fun _ => D.bl true) fun _ _ => rfl
  show outR (B_is_name [some (.frz (.str (txt w))), none]) = _
  have v : view [] [some (.frz (.str (txt w))), none] = [some (.str (txt w)), none] := rfl
  rw [B_is_name_u, seq_to (ρ' := [some (.frz (.str (txt w))), none]) (o := .rt (.bl true) [some (.frz (.str (txt w))), none]) (by simp [txt_length, h1, h8, show w.length ≤ 16777215 by omega, show (1 : Int) ≤ (w.length : Int) by omega, show (w.length : Int) ≤ 8 by omega]) (by
    rw [sRet_e, v, eCall_e, aCons_e, c1, aNil_e, cons2_ok, bd_ok, al, atR_ok]
    rfl)]
  rfl
theorem is_want_g {w : List Nat} {k : Nat} (h : NmOk w) (k1 : k ≤ 1000000000) : F_is_want [.tup [.str (txt w), .int (k : Nat)]] = .ok (.bl true) := by
  show outR (B_is_want [some (.frz (.tup [.str (txt w), .int (k : Nat)]))]) = _
  simp [B_is_want_u, is_name_g h, show (k : Int) ≤ 1000000000 by omega]
def nmG (l : List (List Nat)) : List (D × D) := l.map fun v => (.str (txt v), .bl true)
theorem nmG_new {l : List (List Nat)} {v : List Nat} (h : v ∉ l) : ∀ p ∈ nmG l, p.1 ≠ .str (txt v) := fun p hp e => by
  obtain ⟨u, hu, rfl⟩ := List.mem_map.mp hp
  have := txt_inj (D.str.inj e)
  subst this
  exact h hu
theorem lw1_e (w : D) : ∀ (ws : List (List Nat × Nat)) (k : Nat) (done : List (List Nat)), (∀ p ∈ ws, NmOk p.1) → (∀ p ∈ ws, p.2 ≤ 1000000000) → (done ++ ws.map (·.1)).Nodup → done.length + ws.length ≤ 1000 →
    ∃ done', forL (tgT [(tgN 2), (tgN 3)]) B_look_at_wants_1 [2, 3] (numbered k (ws.map fun p => .tup [.str (txt p.1), .int (p.2 : Nat)])) [some (.frz w), some (.own false (.dct false (nmG done))), none, none] = .nx [some (.frz w), some (.own false (.dct false (nmG done'))), none, none]
  | [], k, done, _, _, _, _ => ⟨done, rfl⟩
  | p :: ws, k, done, hn, hc, nd, hl => by
    rw [List.length_cons] at hl
    obtain ⟨done', ih⟩ := lw1_e w ws (k + 1) (done ++ [p.1]) (fun q hq => hn q (List.mem_cons_of_mem _ hq)) (fun q hq => hc q (List.mem_cons_of_mem _ hq)) (by rw [List.append_assoc]; exact nd) (by rw [List.length_append, List.length_singleton]; omega)
    refine ⟨done', ?_⟩
    have iw := is_want_g (hn p List.mem_cons_self) (hc p List.mem_cons_self)
    have nw : p.1 ∉ done := fun m => (List.nodup_append.mp nd).2.2 _ m _ (by rw [List.map_cons]; exact List.mem_cons_self) rfl
    have g := dGet_none (nmG_new nw)
    have dp : dPut (nmG done) (.str (txt p.1)) (.bl true) = nmG (done ++ [p.1]) := by
      rw [dPut_new (nmG_new nw)]
      unfold nmG
      rw [List.map_append]
      rfl
    have fit : (nmG done).length ≤ 16777215 := by unfold nmG; rw [List.length_map]; omega
    rw [List.map_cons]
    show forL _ _ _ (.tup [.int k, .tup [.str (txt p.1), .int (p.2 : Nat)]] :: numbered (k + 1) (ws.map fun p => .tup [.str (txt p.1), .int (p.2 : Nat)])) _ = _
    rw [forL_cons]
    generalize hP : (D.tup [.str (txt p.1), .int (p.2 : Nat)]) = P at *
    have i0 : dIx P (.int 0) = .ok (.str (txt p.1)) := by rw [← hP]; simp
    show forK _ _ _ _ (B_look_at_wants_1 [some (.frz w), some (.own false (.dct false (nmG done))), some (.frz (.int k)), some (.frz P)]) = _
    have b : B_look_at_wants_1 [some (.frz w), some (.own false (.dct false (nmG done))), some (.frz (.int k)), some (.frz P)] = .nx [some (.frz w), some (.own false (.dct false (nmG (done ++ [p.1])))), some (.frz (.int k)), some (.frz P)] := by
      rw [B_look_at_wants_1_u]
      refine seq_to (ρ' := [some (.frz w), some (.own false (.dct false (nmG done))), some (.frz (.int k)), some (.frz P)]) ?_ ?_
      · have v : view [1] [some (.frz w), some (.own false (.dct false (nmG done))), some (.frz (.int k)), some (.frz P)] = [some w, some (.dct false (nmG done)), some (.int k), some P] := rfl
        have t1 : bNot (bT (eCall F_is_want (aCons (eVar 3) aNil))) [some w, some (.dct false (nmG done)), some (.int k), some P] = .ok false := by
          simp [iw]
        have t2 : bT (eOp (dIn false) (eOp dIx (eVar 3) (eC (.int 0))) (eVar 1)) [some w, some (.dct false (nmG done)), some (.int k), some P] = .ok false := by
          rw [bT_e, eOp_e, eOp_e, eC_e]
          show bd dTru (op2 (dIn false) (dIx P (.int 0)) (.ok (.dct false (nmG done)))) = _
          rw [i0, op2_ok, dIn_dct rfl, g]
          rfl
        rw [sIf_e, v, bOr_e, t1, bd_ok, borC_f, t2, atR_ok, ifC_f]
        rfl
      · simp [i0, putDF_str fit, dp]
    rw [b, forK_nx]
    exact ih
theorem look_wants_g {ws : List (List Nat × Nat)} (h : Wn ws) : F_look_at_wants [wnD ws] = .ok .non := by
  have n1 := h.n1
  have n20 := h.n20
  obtain ⟨done', e1⟩ := lw1_e (wnD ws) ws 0 [] h.nm h.ct h.nd (by show 0 + ws.length ≤ 1000; omega)
  show outR (B_look_at_wants [some (.frz (wnD ws)), none, none, none]) = _
  have dl : dLen [wnD ws] = .ok (.int (ws.length : Nat)) := by
    unfold wnD
    rw [dLen_lst (by rw [List.length_map]; omega), List.length_map]
  have : B_look_at_wants [some (.frz (wnD ws)), none, none, none] = .nx [some (.frz (wnD ws)), some (.own false (.dct false (nmG done'))), none, none] := by
    rw [B_look_at_wants_u]
    refine seq_to (ρ' := [some (.frz (wnD ws)), none, none, none]) ?_ ?_
    · have k1 : isKind "list" (wnD ws) = .ok (.bl true) := rfl
      generalize wnD ws = w at *
      simp [k1, dl, show (1 : Int) ≤ ws.length by omega, show (ws.length : Int) ≤ 20 by omega, show 1 ≤ ws.length by omega, show ws.length ≤ 20 by omega]
    refine seq_to (ρ' := [some (.frz (wnD ws)), some (.own false (.dct false (nmG []))), none, none]) (by simp; rfl) ?_
    exact for_to (ds := numbered 0 (ws.map fun p => .tup [.str (txt p.1), .int (p.2 : Nat)])) (ρ' := [some (.frz (wnD ws)), some (.own false (.dct false (nmG []))), none, none]) rfl rfl e1
  rw [this]
  rfl
end Du

namespace Du
open PySem PySem.Spec PyProof.Rows L2 Dear
/-! ### fractions in lowest terms, reckoned -/
def lowF (a b : Nat) : Nat × Nat := (a / Nat.gcd b a, b / Nat.gcd b a)
def frD (f : Nat × Nat) : D := .tup [.int f.1, .int f.2]
def addF (f g : Nat × Nat) : Nat × Nat := lowF (f.1 * g.2 + g.1 * f.2) (f.2 * g.2)
def sumF (l : List (Nat × Nat)) : Nat × Nat := l.foldl addF (0, 1)
structure Lo (k : Nat) (f : Nat × Nat) : Prop where
  pos : 0 < f.2
  gcd : Nat.gcd f.2 f.1 = 1
  b1 : f.1 < 2 ^ k
  b2 : f.2 < 2 ^ k
theorem Lo.mono {k m : Nat} {f : Nat × Nat} (h : Lo k f) (hk : k ≤ m) : Lo m f := ⟨h.pos, h.gcd, Nat.lt_of_lt_of_le h.b1 (Nat.pow_le_pow_right (by decide) hk), Nat.lt_of_lt_of_le h.b2 (Nat.pow_le_pow_right (by decide) hk)⟩
theorem lowF_lo {a b k : Nat} (hb : 0 < b) (h1 : a < 2 ^ k) (h2 : b < 2 ^ k) : Lo k (lowF a b) := by
  have g0 : 0 < Nat.gcd b a := Nat.gcd_pos_of_pos_left _ hb
  refine ⟨Nat.div_pos (Nat.le_of_dvd hb (Nat.gcd_dvd_left b a)) g0, ?_, Nat.lt_of_le_of_lt (Nat.div_le_self _ _) h1, Nat.lt_of_le_of_lt (Nat.div_le_self _ _) h2⟩
  show Nat.gcd (b / Nat.gcd b a) (a / Nat.gcd b a) = 1
  exact Nat.gcd_div_gcd_div_gcd_of_pos_left hb
theorem cmulN {a b k : Nat} (ha : a < 2 ^ k) (hb : b < 2 ^ k) (h0 : 0 < k) (hk : k ≤ 9000) : CMulA (a : Int) (b : Int) := by
  have x := log_lt ha h0
  have y := log_lt hb h0
  refine .inl ?_
  unfold CMulW
  rw [Int.natAbs_natCast, Int.natAbs_natCast]
  omega
theorem cdivN {a : Int} {b k : Nat} (hp : 0 < b) (hb : b < 2 ^ k) (h0 : 0 < k) (hk : k ≤ 9000) : CDivW a (b : Int) := by
  have y := log_lt hb h0
  exact ⟨by omega, by rw [Int.natAbs_natCast]; omega⟩
theorem lowest_f {a b k : Nat} (hb : 0 < b) (h2 : b < 2 ^ k) (h0 : 0 < k) (hk : k ≤ 9000) : F_lowest [.int a, .int b] = .ok (frD (lowF a b)) := by
  have g0 : 0 < Nat.gcd b a := Nat.gcd_pos_of_pos_left _ hb
  have gl : Nat.gcd b a ≤ b := Nat.le_of_dvd hb (Nat.gcd_dvd_left b a)
  have c : ∀ i : Int, CDivW i ((Nat.gcd b a : Nat) : Int) := fun i => cdivN g0 (Nat.lt_of_le_of_lt gl h2) h0 hk
  have d := divisor_e a b
  have e : F_divisor [.int b, .int a] = .ok (.int (Nat.gcd a b)) := divisor_e a b
  rw [Nat.gcd_comm a b] at e
  show outR (B_lowest [some (.frz (.int a)), some (.frz (.int b)), none]) = _
  have ab : (if (a : Int) < 0 then -(a : Int) else (a : Int)) = a := if_neg (by omega)
  simp [B_lowest_u, ab, e, c, frD, lowF]
theorem addF_lo {k m : Nat} {f g : Nat × Nat} (h : Lo k f) (h' : Lo m g) : Lo (k + m + 1) (addF f g) := by
  have a1 := h.b1
  have a2 := h.b2
  have b1 := h'.b1
  have b2 := h'.b2
  have e : 2 ^ (k + m + 1) = 2 ^ k * 2 ^ m + 2 ^ k * 2 ^ m := by rw [Nat.pow_succ, Nat.pow_add]; omega
  refine lowF_lo (Nat.mul_pos h.pos h'.pos) ?_ ?_
  · rw [e]
    have x1 : f.1 * g.2 < 2 ^ k * 2 ^ m := Nat.mul_lt_mul'' a1 b2
    have x2 : g.1 * f.2 < 2 ^ k * 2 ^ m := by rw [Nat.mul_comm]; exact Nat.mul_lt_mul'' a2 b1
    omega
  · rw [e]
    have x1 : f.2 * g.2 < 2 ^ k * 2 ^ m := Nat.mul_lt_mul'' a2 b2
    omega
theorem plus_f {k m : Nat} {f g : Nat × Nat} (h : Lo k f) (h' : Lo m g) (hk : k + m + 1 ≤ 9000) : F_plus [frD f, frD g] = .ok (frD (addF f g)) := by
  have s := h.mono (m := k + m + 1) (by omega)
  have s' := h'.mono (m := k + m + 1) (by omega)
  have e := lowest_f (a := f.1 * g.2 + g.1 * f.2) (b := f.2 * g.2) (k := k + m + 1) (Nat.mul_pos h.pos h'.pos) (by
    have x1 : f.2 * g.2 < 2 ^ k * 2 ^ m := Nat.mul_lt_mul'' h.b2 h'.b2
    rw [Nat.pow_succ, Nat.pow_add]
    omega) (by omega) hk
  rw [Int.natCast_add, Int.natCast_mul, Int.natCast_mul, Int.natCast_mul] at e
  have c1 := cmulN s.b1 s'.b2 (by omega) hk
  have c2 := cmulN s'.b1 s.b2 (by omega) hk
  have c3 := cmulN s.b2 s'.b2 (by omega) hk
  show outR (B_plus [some (.frz (frD f)), some (.frz (frD g))]) = _
  have z : frD (addF f g) = frD (lowF (f.1 * g.2 + g.1 * f.2) (f.2 * g.2)) := rfl
  rw [z, ← Res.bind_ok (frD (lowF (f.1 * g.2 + g.1 * f.2) (f.2 * g.2))) Res.ok, ← e]
  simp [B_plus_u, frD, c1, c2, c3]
  rw [e]
  rfl
theorem sum1_f : ∀ (l : List (Nat × Nat)) (k : Nat) (f : Nat × Nat) (s : Option Slot) (x : D), (∀ g ∈ l, Lo 62 g) → Lo k f → k + 63 * l.length ≤ 9000 → s = some (.frz x) → forL (tgN 2) B_sum_of_1 [2] (l.map frD) [s, some (.frz (frD f)), none] = .nx [s, some (.frz (frD (l.foldl addF f))), none]
  | [], _, _, _, _, _, _, _, _ => rfl
  | g :: l, k, f, s, x, hl, hf, hk, hs => by
    rw [List.length_cons] at hk
    have hg := hl g List.mem_cons_self
    have e := plus_f hf hg (by omega)
    have ih := sum1_f l (k + 62 + 1) (addF f g) s x (fun z hz => hl z (List.mem_cons_of_mem _ hz)) (addF_lo hf hg) (by omega) hs
    subst hs
    rw [List.map_cons, forL_cons, tgN_e, forT_ok]
    have b : B_sum_of_1 (setS [some (.frz x), some (.frz (frD f)), none] [(2, frD g)]) = .nx [some (.frz x), some (.frz (frD (addF f g))), some (.frz (frD g))] := by
      rw [B_sum_of_1_u]
      simp [e]
    rw [b, forK_nx]
    exact ih
theorem lo_zero : Lo 1 (0, 1) := ⟨by decide, by decide, by decide, by decide⟩
theorem sum_f {l : List (Nat × Nat)} (hl : ∀ g ∈ l, Lo 62 g) (hn : l.length ≤ 100) : F_sum_of [.lst (l.map frD)] = .ok (frD (sumF l)) := by
  have e := sum1_f l 1 (0, 1) (some (.frz (.lst (l.map frD)))) _ hl lo_zero (by omega) rfl
  show outR (B_sum_of [some (.frz (.lst (l.map frD))), none, none]) = _
  rw [B_sum_of_u]
  have : sSeq (sAsg [] (eTup (aCons (eC (.int 0)) (aCons (eC (.int 1)) aNil))) (tgN 1)) (sSeq (sFor [] (iAny (eVar 0)) (tgN 2) B_sum_of_1 [2]) (sRet [] (eVar 1))) [some (.frz (.lst (l.map frD))), none, none] = .rt (frD (sumF l)) [some (.frz (.lst (l.map frD))), some (.frz (frD (sumF l))), none] := by
    refine seq_to (ρ' := [some (.frz (.lst (l.map frD))), some (.frz (frD (0, 1))), none]) (by simp [frD]) ?_
    refine seq_to (for_to (ds := l.map frD) (ρ' := [some (.frz (.lst (l.map frD))), some (.frz (frD (0, 1))), none]) (by simp) (by simp) e) ?_
    simp [sumF]
  rw [this]
  rfl
end Du

namespace Du
open PySem PySem.Spec PyProof.Rows L2 Dear
/-! ### fractions in lowest terms are alike when worth alike -/
structure Low (f : Nat × Nat) : Prop where
  pos : 0 < f.2
  gcd : Nat.gcd f.2 f.1 = 1
theorem Lo.low {k : Nat} {f : Nat × Nat} (h : Lo k f) : Low f := ⟨h.pos, h.gcd⟩
theorem low_eq {f g : Nat × Nat} (hf : Low f) (hg : Low g) (e : f.1 * g.2 = g.1 * f.2) : f = g := by
  have d1 : f.2 ∣ g.2 := by
    have c : Nat.Coprime f.2 f.1 := hf.gcd
    exact c.dvd_of_dvd_mul_left (⟨g.1, by rw [e, Nat.mul_comm]⟩ : f.2 ∣ f.1 * g.2)
  have d2 : g.2 ∣ f.2 := by
    have c : Nat.Coprime g.2 g.1 := hg.gcd
    exact c.dvd_of_dvd_mul_left (⟨f.1, by rw [← e, Nat.mul_comm]⟩ : g.2 ∣ g.1 * f.2)
  have e2 : f.2 = g.2 := Nat.dvd_antisymm d1 d2
  have e1 : f.1 = g.1 := by
    rw [e2] at e
    exact Nat.eq_of_mul_eq_mul_right hg.pos e
  exact Prod.ext e1 e2
end Du

namespace Du
open PySem PySem.Spec PyProof.Rows L2 Dear
/-! ### what fractions are worth -/
def mulF (f g : Nat × Nat) : Nat × Nat := lowF (f.1 * g.1) (f.2 * g.2)
def qF (f : Nat × Nat) : Rat := mkRat f.1 f.2
theorem lowF_low {a b : Nat} (hb : 0 < b) : Low (lowF a b) := by
  have g0 : 0 < Nat.gcd b a := Nat.gcd_pos_of_pos_left _ hb
  exact ⟨Nat.div_pos (Nat.le_of_dvd hb (Nat.gcd_dvd_left b a)) g0, Nat.gcd_div_gcd_div_gcd_of_pos_left hb⟩
theorem qF_low {a b : Nat} (hb : 0 < b) : qF (lowF a b) = mkRat a b := by
  have l := lowF_low (a := a) hb
  have d1 := Nat.div_mul_cancel (Nat.gcd_dvd_left b a)
  have d2 := Nat.div_mul_cancel (Nat.gcd_dvd_right b a)
  have hp : 0 < b / Nat.gcd b a := l.pos
  show mkRat ((a / Nat.gcd b a : Nat) : Int) (b / Nat.gcd b a) = mkRat a b
  rw [Rat.mkRat_eq_iff (by omega) (by omega)]
  rw [← Int.natCast_mul, ← Int.natCast_mul]
  congr 1
  generalize hg : Nat.gcd b a = g at *
  generalize a / g = x at *
  generalize b / g = y at *
  subst d1 d2
  rw [← Nat.mul_assoc, Nat.mul_right_comm]
theorem addF_low {f g : Nat × Nat} (h : 0 < f.2) (h' : 0 < g.2) : Low (addF f g) := lowF_low (Nat.mul_pos h h')
theorem mulF_low {f g : Nat × Nat} (h : 0 < f.2) (h' : 0 < g.2) : Low (mulF f g) := lowF_low (Nat.mul_pos h h')
theorem qF_add {f g : Nat × Nat} (h : 0 < f.2) (h' : 0 < g.2) : qF (addF f g) = qF f + qF g := by
  unfold addF
  rw [qF_low (Nat.mul_pos h h')]
  unfold qF
  rw [Rat.mkRat_add_mkRat _ _ (by omega) (by omega), Int.natCast_add, Int.natCast_mul, Int.natCast_mul]
theorem qF_mul {f g : Nat × Nat} (h : 0 < f.2) (h' : 0 < g.2) : qF (mulF f g) = qF f * qF g := by
  unfold mulF
  rw [qF_low (Nat.mul_pos h h')]
  unfold qF
  rw [Rat.mkRat_mul_mkRat, Int.natCast_mul]
theorem qF_inj {f g : Nat × Nat} (hf : Low f) (hg : Low g) (e : qF f = qF g) : f = g := by
  have h1 := hf.pos
  have h2 := hg.pos
  refine low_eq hf hg ?_
  have := (Rat.mkRat_eq_iff (by omega) (by omega)).mp e
  rw [← Int.natCast_mul, ← Int.natCast_mul] at this
  exact Int.ofNat.inj this
theorem qF_fold : ∀ (l : List (Nat × Nat)) (f : Nat × Nat), 0 < f.2 → (∀ g ∈ l, 0 < g.2) → 0 < (l.foldl addF f).2 ∧ qF (l.foldl addF f) = qF f + (l.map qF).sum
  | [], f, h, _ => ⟨h, by rw [List.map_nil, List.sum_nil, Rat.add_zero]; rfl⟩
  | g :: l, f, h, hl => by
    have hg := hl g List.mem_cons_self
    have ih := qF_fold l (addF f g) (addF_low h hg).pos fun x hx => hl x (List.mem_cons_of_mem _ hx)
    refine ⟨ih.1, ?_⟩
    rw [List.foldl_cons, ih.2, qF_add h hg, List.map_cons, List.sum_cons, Rat.add_assoc]
theorem fold_low : ∀ (l : List (Nat × Nat)) (f : Nat × Nat), Low f → (∀ g ∈ l, 0 < g.2) → Low (l.foldl addF f)
  | [], _, h, _ => h
  | g :: l, f, h, hl => fold_low l (addF f g) (addF_low h.pos (hl g List.mem_cons_self)) fun x hx => hl x (List.mem_cons_of_mem _ hx)
theorem sumF_low {l : List (Nat × Nat)} (hl : ∀ g ∈ l, 0 < g.2) : Low (sumF l) := fold_low l (0, 1) ⟨by decide, by decide⟩ hl
theorem qF_sum {l : List (Nat × Nat)} (hl : ∀ g ∈ l, 0 < g.2) : qF (sumF l) = (l.map qF).sum := by
  unfold sumF
  rw [(qF_fold l (0, 1) (by decide) hl).2]
  show mkRat 0 1 + _ = _
  rw [Rat.zero_mkRat, Rat.zero_add]
end Du

namespace Du
open PySem PySem.Spec PyProof.Rows L2 Dear
/-! ### the program's columns -/
def numF : D → Nat × Nat
  | .tup [.int x, .int y] => (x.toNat, y.toNat)
  | _ => (1, 1)
theorem price_num {d : D} (h : Price d) : frD (numF d) = d ∧ Lo 62 (numF d) ∧ 0 < (numF d).1 := by
  obtain ⟨x, y, rfl, h1, h2, h3, h4, h5⟩ := h
  have e : numF (.tup [.int x, .int y]) = (x, y) := by
    show ((x : Int).toNat, (y : Int).toNat) = _
    rw [Int.toNat_natCast, Int.toNat_natCast]
  rw [e]
  exact ⟨rfl, ⟨h2, by rw [Nat.gcd_comm]; exact h3, h4, h5⟩, h1⟩
def Tg.rowOf (T : Tg) (c : Nat) : Nat × D × D := (T.signs.find? fun r => r.1 == c).getD (0, .non, .non)
def Tg.pr (T : Tg) (c : Nat) : Nat × Nat := numF (T.rowOf c).2.1
def Tg.la (T : Tg) (c : Nat) : Nat × Nat := numF (T.rowOf c).2.2
theorem find_nd : ∀ {l : List (Nat × D × D)}, (l.map (·.1)).Nodup → ∀ {r : Nat × D × D}, r ∈ l → (l.find? fun x => x.1 == r.1) = some r
  | [], _, _, h => nomatch h
  | x :: l, nd, r, h => by
    rw [List.map_cons, List.nodup_cons] at nd
    rw [List.find?_cons]
    rcases List.mem_cons.mp h with e | h
    · subst e; simp
    · have : (x.1 == r.1) = false := by
        rw [beq_eq_false_iff_ne]
        exact fun e => nd.1 (by rw [e]; exact List.mem_map.mpr ⟨r, h, rfl⟩)
      rw [this]
      exact find_nd nd.2 h
theorem rowOf_e {T : Tg} (h : Good T) {r : Nat × D × D} (hr : r ∈ T.signs) : T.rowOf r.1 = r := by
  unfold Tg.rowOf
  rw [find_nd h.nd hr]
  rfl
theorem pr_e {T : Tg} (h : Good T) {c : Nat} (hc : c ∈ T.codes) : Lo 62 (T.pr c) ∧ 0 < (T.pr c).1 ∧ ∃ r ∈ T.signs, r.1 = c ∧ frD (T.pr c) = r.2.1 := by
  obtain ⟨r, hr, rfl⟩ := List.mem_map.mp hc
  have e := rowOf_e h hr
  have p := price_num (h.row r hr).pr
  unfold Tg.pr
  rw [e]
  exact ⟨p.2.1, p.2.2, r, hr, rfl, p.1⟩
theorem la_e {T : Tg} (h : Good T) {c : Nat} (hc : T.ends c = true) : Lo 62 (T.la c) ∧ 0 < (T.la c).1 ∧ ∃ r ∈ T.signs, r.1 = c ∧ frD (T.la c) = r.2.2 := by
  unfold Tg.ends at hc
  obtain ⟨r, hr, q⟩ := List.any_eq_true.mp hc
  rw [Bool.and_eq_true] at q
  have ec : r.1 = c := by simpa using q.1
  subst ec
  have e := rowOf_e h hr
  have pl : Price r.2.2 := by
    rcases (h.row r hr).la with z | z
    · rw [z] at q; cases q.2
    · exact z
  have p := price_num pl
  unfold Tg.la
  rw [e]
  exact ⟨p.2.1, p.2.2, r, hr, rfl, p.1⟩
def prD (T : Tg) : List (D × D) := T.signs.map fun r => (.str (txt [r.1]), r.2.1)
def laD (T : Tg) : List (D × D) := T.signs.map fun r => (.str (txt [r.1]), r.2.2)
/-- a book -/
structure Bk (T : Tg) (B : List (List Nat)) : Prop where
  n0 : B ≠ []
  n20 : B.length ≤ 20
  len : ∀ w ∈ B, w.length ≤ 8
  cod : ∀ w ∈ B, ∀ c ∈ w, c ∈ T.codes
  fin : ∀ w ∈ B, ∃ v c, w = v ++ [c] ∧ T.ends c = true
def wayF (T : Tg) (w : List Nat) : Nat × Nat := sumF (w.map T.pr)
def endF (T : Tg) (w : List Nat) : Nat × Nat := addF (wayF T w.dropLast) (T.la (w.getLast?.getD 0))
theorem foldl_lo : ∀ (l : List (Nat × Nat)) (k : Nat) (f : Nat × Nat), (∀ g ∈ l, Lo 62 g) → Lo k f → Lo (k + 63 * l.length) (l.foldl addF f)
  | [], k, f, _, h => h
  | g :: l, k, f, hl, h => by
    have := foldl_lo l (k + 62 + 1) (addF f g) (fun z hz => hl z (List.mem_cons_of_mem _ hz)) (addF_lo h (hl g List.mem_cons_self))
    rw [List.length_cons]
    rw [show k + 63 * (l.length + 1) = k + 62 + 1 + 63 * l.length by omega]
    exact this
theorem way_lo {T : Tg} (h : Good T) {w : List Nat} (hw : w.length ≤ 8) (hc : ∀ c ∈ w, c ∈ T.codes) : Lo 600 (wayF T w) := by
  have := foldl_lo (w.map T.pr) 1 (0, 1) (fun g hg => by
    obtain ⟨c, m, rfl⟩ := List.mem_map.mp hg
    exact (pr_e h (hc c m)).1) lo_zero
  rw [List.length_map] at this
  exact this.mono (by omega)
end Du

namespace Du
open PySem PySem.Spec PyProof.Rows L2 Dear
end Du

namespace Du
open PySem PySem.Spec PyProof.Rows L2 Dear
/-! ### the law's words -/
theorem comes_e (T : Tg) {l : List Nat} {c : Nat} (hl : l.length ≤ 1) : F_comes [T.d, .str (txt l), .str (txt [c])] = .ok (.bl (T.comes l c)) := by
  show outR (B_comes [some (.frz T.d), some (.frz (.str (txt l))), some (.frz (.str (txt [c])))]) = _
  have e0 : (Str.ofString "" : Str) = txt [] := rfl
  unfold Tg.d Tg.comes
  by_cases h : l = []
  · subst h
    simp [B_comes, e0, dIn_txts]
  · have : ¬ txt l = txt [] := fun e => h (txt_inj e)
    simp [B_comes, e0, this, h, txt_app, txt_length, dIn_txts, show l.length + 1 ≤ 16777215 by omega]
def Tg.lasts (T : Tg) : List (D × D) := T.signs.map fun r => (.str (txt [r.1]), r.2.2)
theorem code_asc {T : Tg} (h : Good T) {c : Nat} (hc : c ∈ T.codes) : c < 128 := by
  obtain ⟨r, hr, rfl⟩ := List.mem_map.mp hc
  have := (h.row r hr).hi
  omega
end Du

namespace Du
open PySem PySem.Spec PyProof.Rows L2 Dear
end Du

namespace Du
open PySem PySem.Spec PyProof.Rows L2 Dear
/-! ### the law's fractions, and the program's times -/
/-- fractions whose top may be below nought -/
def lowZ (t : Int) (b : Nat) : Int × Nat := (t / (Nat.gcd b t.natAbs : Nat), b / Nat.gcd b t.natAbs)
def frZ (f : Int × Nat) : D := .tup [.int f.1, .int f.2]
theorem pow_big {k m : Nat} {a b : Nat} (h : a < 2 ^ k) (h' : b < 2 ^ m) : a * b < 2 ^ (k + m) := by
  rw [Nat.pow_add]
  exact Nat.mul_lt_mul'' h h'
theorem mulF_lo {k m : Nat} {f g : Nat × Nat} (h : Lo k f) (h' : Lo m g) : Lo (k + m) (mulF f g) := lowF_lo (Nat.mul_pos h.pos h'.pos) (pow_big h.b1 h'.b1) (pow_big h.b2 h'.b2)
theorem times_f {k m : Nat} {f g : Nat × Nat} (h : Lo k f) (h' : Lo m g) (hk : k + m + 1 ≤ 9000) : F_times [frD f, frD g] = .ok (frD (mulF f g)) := by
  have s := h.mono (m := k + m + 1) (by omega)
  have s' := h'.mono (m := k + m + 1) (by omega)
  have e := lowest_f (a := f.1 * g.1) (b := f.2 * g.2) (k := k + m + 1) (Nat.mul_pos h.pos h'.pos) (Nat.lt_of_lt_of_le (pow_big h.b2 h'.b2) (Nat.pow_le_pow_right (by decide) (by omega))) (by omega) hk
  rw [Int.natCast_mul, Int.natCast_mul] at e
  have c1 := cmulN s.b1 s'.b1 (by omega) hk
  have c3 := cmulN s.b2 s'.b2 (by omega) hk
  show outR (B_times [some (.frz (frD f)), some (.frz (frD g))]) = _
  have z : frD (mulF f g) = frD (lowF (f.1 * g.1) (f.2 * g.2)) := rfl
  rw [z, ← Res.bind_ok (frD (lowF (f.1 * g.1) (f.2 * g.2))) Res.ok, ← e]
  simp [B_times_u, frD, c1, c3]
  rw [e]
  rfl
/-- one less than the other, by their worth -/
theorem qF_nd {f : Nat × Nat} (h : Low f) : (qF f).num = f.1 ∧ (qF f).den = f.2 := by
  have g : Nat.gcd f.2 (f.1 : Int).natAbs = 1 := h.gcd
  have p := h.pos
  unfold qF
  rw [Rat.num_mkRat, Rat.den_mkRat, if_neg (by omega), if_neg (by omega), g]
  exact ⟨Int.ediv_one _, Nat.div_one _⟩
theorem less_q {f g : Nat × Nat} (hf : Low f) (hg : Low g) : f.1 * g.2 < g.1 * f.2 ↔ qF f < qF g := by
  rw [Rat.lt_iff, (qF_nd hf).1, (qF_nd hf).2, (qF_nd hg).1, (qF_nd hg).2, ← Int.natCast_mul, ← Int.natCast_mul]
  omega
theorem qF_nn (f : Nat × Nat) : 0 ≤ qF f := by
  unfold qF
  rw [← Rat.num_nonneg, Rat.num_mkRat]
  split
  · exact Int.le_refl 0
  · exact Int.ediv_nonneg (Int.natCast_nonneg _) (Int.natCast_nonneg _)
end Du

namespace Du
open PySem PySem.Spec PyProof.Rows L2 Dear
/-! ### texts below a text (plain) -/
def Tg.below (T : Tg) : Nat → List Nat → List (List Nat)
  | 0, _ => []
  | n + 1, v => (T.longer v).flatMap fun u => u :: T.below n u
def Tg.ahead (T : Tg) : Nat → List (List Nat) → List (List Nat)
  | 0, _ => []
  | n + 1, l => T.step l ++ T.ahead n (T.step l)
/-- a text below another one: it goes on -/
theorem below_mem {T : Tg} : ∀ {n : Nat} {v w : List Nat}, w ∈ T.below n v → ∃ x c, w = v ++ x ++ [c] ∧ x.length < n ∧ (∀ d ∈ x ++ [c], d ∈ T.codes)
  | 0, _, _, h => nomatch h
  | n + 1, v, w, h => by
    obtain ⟨u, hu, hw⟩ := List.mem_flatMap.mp h
    unfold Tg.longer at hu
    obtain ⟨r, hr, rfl⟩ := List.mem_map.mp hu
    have hc : r.1 ∈ T.codes := List.mem_map.mpr ⟨r, (List.mem_filter.mp hr).1, rfl⟩
    rcases List.mem_cons.mp hw with rfl | hw
    · refine ⟨[], r.1, by simp, by simp, fun d hd => ?_⟩
      rw [List.nil_append, List.mem_singleton] at hd
      rw [hd]
      exact hc
    · obtain ⟨x, c, rfl, h2, h3⟩ := below_mem hw
      refine ⟨r.1 :: x, c, by simp, by rw [List.length_cons]; omega, fun d hd => ?_⟩
      rcases List.mem_cons.mp (show d ∈ r.1 :: (x ++ [c]) from hd) with rfl | hd
      · exact hc
      · exact h3 d hd
end Du

namespace Du
open PySem PySem.Spec PyProof.Rows L2 Dear
/-! ### the law's price of a word, and the prices of all -/
def wpF (T : Tg) (w : List Nat) : Nat × Nat := (w.dropLast.map T.pr).foldl addF (T.la (w.getLast?.getD 0))
def wpD (T : Tg) : List (D × D) := T.words.map fun w => (.str (txt w), frD (wpF T w))
end Du

namespace Du
open PySem PySem.Spec PyProof.Rows L2 Dear
/-! ### the law's parts -/
abbrev Par := List Nat × Nat × (Nat × Nat)
def partD (p : Par) : D := .tup [.str (txt p.1), .str (txt [p.2.1]), frD p.2.2]
def lpS (s nm : D) (b : Bool) (P : D) (x4 x5 x6 x7 x8 x9 : Option Slot) : Env := [some (.own true s), some (.frz nm), some (.frz (.bl b)), some (.own false P), x4, x5, x6, x7, x8, x9]
/-- the parts that stand in a list of parts -/
structure PtOk (cs : List Nat) (ps : List Par) : Prop where
  ah : ∀ p ∈ ps, p.1 = [] ∨ ∃ c ∈ cs, p.1 = [c]
  sg : ∀ p ∈ ps, p.2.1 ∈ cs
  lo : ∀ p ∈ ps, Lo 10 p.2.2
  nd : (ps.map fun p => (p.1, p.2.1)).Nodup
structure InP (cs : List Nat) (done : List (List Nat)) (ps : List Par) : Prop where
  al : ∀ p ∈ ps, p.1 ∈ done ∧ p.2.1 ∈ cs ∧ Lo 10 p.2.2
  nd : (ps.map fun p => (p.1, p.2.1)).Nodup
end Du

namespace Du
open PySem PySem.Spec PyProof.Rows L2 Dear
/-! ### a word's share -/
def getPt (ps : List Par) (a : List Nat) (c : Nat) : Nat × Nat := ((ps.find? fun p => decide (p.1 = a ∧ p.2.1 = c)).map (·.2.2)).getD (0, 1)
def shG (ps : List Par) (f : Nat × Nat) (a : List Nat) : List Nat → Nat × Nat
  | [] => f
  | c :: w => shG ps (mulF f (getPt ps a c)) [c] w
abbrev shF (ps : List Par) (f : Nat × Nat) (w : List Nat) : Nat × Nat := shG ps f [] w
theorem shG_snoc (ps : List Par) : ∀ (w : List Nat) (f : Nat × Nat) (a : List Nat) (c : Nat), shG ps f a (w ++ [c]) = mulF (shG ps f a w) (getPt ps (if w = [] then a else lastL w) c)
  | [], f, a, c => rfl
  | x :: w, f, a, c => by
    rw [List.cons_append]
    show shG ps (mulF f (getPt ps a x)) [x] (w ++ [c]) = mulF (shG ps (mulF f (getPt ps a x)) [x] w) _
    rw [shG_snoc ps w]
    congr 2
    rw [if_neg (show ¬ (x :: w) = [] by simp)]
    cases w with
    | nil => rfl
    | cons y w => rw [if_neg (by simp), lastL_eq, lastL_eq, List.getLast?_cons_cons]
theorem shF_snoc (ps : List Par) (w : List Nat) (f : Nat × Nat) (c : Nat) : shF ps f (w ++ [c]) = mulF (shF ps f w) (getPt ps (lastL w) c) := by
  unfold shF
  rw [shG_snoc]
  by_cases h : w = []
  · subst h
    rfl
  · rw [if_neg h]
theorem getPt_lo {cs : List Nat} {ps : List Par} (h : PtOk cs ps) (a : List Nat) (c : Nat) : Lo 10 (getPt ps a c) := by
  unfold getPt
  cases e : ps.find? fun p => decide (p.1 = a ∧ p.2.1 = c) with
  | none => exact lo_zero.mono (by decide)
  | some p => exact h.lo p (List.mem_of_find?_eq_some e)
theorem shG_lo {cs : List Nat} {ps : List Par} (h : PtOk cs ps) : ∀ (w : List Nat) (k : Nat) (f : Nat × Nat) (a : List Nat), Lo k f → Lo (k + 10 * w.length) (shG ps f a w)
  | [], _, _, _, hf => hf
  | c :: w, k, f, a, hf => by
    have := shG_lo h w (k + 10) (mulF f (getPt ps a c)) [c] (mulF_lo hf (getPt_lo h a c))
    rw [List.length_cons, show k + 10 * (w.length + 1) = k + 10 + 10 * w.length by omega]
    exact this
/-! the law's way to it -/
def lsD (ps : List Par) : List (D × D) := ps.map fun p => (.str (txt (p.1 ++ [46, p.2.1])), frD p.2.2)
def lshS (x0 x1 : D) (w : List Nat) (d : D) (f : Nat × Nat) (x5 : Option Slot) : Env := [some (.frz x0), some (.frz x1), some (.frz (.str (txt w))), some (.frz d), some (.frz (frD f)), x5, none, none, none]
end Du

namespace Du
open PySem PySem.Spec PyProof.Rows L2 Dear
/-! ### rows and bounds -/
def rowP (T : Tg) (ps : List Par) (f : Nat × Nat) (w : List Nat) : D := .tup [frD (wpF T w), frD (shF ps f w)]
/-! what a word costs so many times, and its share -/
def costW (T : Tg) (ps : List Par) (f : Nat × Nat) (n : Nat) (w : List Nat) : Nat × Nat := addF (mulF (n, 1) (wpF T w)) (shF ps f w)
theorem lo_nat {n : Nat} (h : n ≤ 1000000000) : Lo 31 (n, 1) := ⟨Nat.one_pos, Nat.gcd_one_left _, Nat.lt_of_le_of_lt h (by decide), by show 1 < 2 ^ 31; decide⟩
def minF (o : Option (Nat × Nat)) (g : Nat × Nat) : Option (Nat × Nat) := match o with
  | none => some g
  | some b => if g.1 * b.2 < b.1 * g.2 then some g else some b
def optF : Option (Nat × Nat) → D
  | none => .non
  | some f => frD f
def boundF (T : Tg) (ps : List Par) (f : Nat × Nat) (n : Nat) : Option (Nat × Nat) := (T.words.map (costW T ps f n)).foldl minF none
end Du

namespace Du
open PySem PySem.Spec PyProof.Rows L2 Dear
/-! ### the law's shares -/
def shS (s x1 x2 x3 x4 x5 x6 x7 x8 V : D) (d : Bool) (y11 y12 y13 y14 y15 : Option Slot) : Env :=
  [some (.own true s), some (.frz x1), some (.frz x2), some (.frz x3), some (.frz x4), some (.frz x5), some (.frz x6), some (.frz x7), some (.frz x8), some (.own false V), some (.frz (.bl d)), y11, y12, y13, y14, y15, none]
def HoldO : Option (Nat × Nat) → Nat × Nat → Prop
  | none, _ => True
  | some b, v => qF v ≤ qF b
end Du

namespace Du
open PySem PySem.Spec PyProof.Rows L2 Dear
structure ShOk (T : Tg) (ws : List (List Nat × Nat)) (f : Nat × Nat) (ps : List Par) (vs : List (Nat × Nat)) (due : Bool) : Prop where
  fl : Lo 62 f
  pk : PtOk T.codes ps
  pl : ps.length ≤ 42
  vl : vs.length = ws.length
  vo : ∀ v ∈ vs, Lo 1000 v
  du : due = true ↔ ∀ x ∈ ws.zip vs, HoldO (boundF T ps f x.1.2) x.2
def sharesD (f : Nat × Nat) (ps : List Par) (vs : List (Nat × Nat)) : D := .tup [frD f, .lst (ps.map partD), .lst (vs.map frD)]
end Du

namespace Du
open PySem PySem.Spec PyProof.Rows L2 Dear
/-! ### the law's look at parts, and its claim -/
def tot (ps : List Par) (a : List Nat) : Nat × Nat := sumF ((ps.filter fun p => decide (p.1 = a)).map (·.2.2))
def overB (ps : List Par) (a : List Nat) : Bool := decide (1 * (tot ps a).2 < (tot ps a).1 * 1)
def Tg.aheads (T : Tg) : List (List Nat) := [] :: T.codes.map fun c => [c]
theorem fold10 {l : List (Nat × Nat)} (h : ∀ g ∈ l, Lo 10 g) : ∀ (k : Nat) (f : Nat × Nat), Lo k f → Lo (k + 11 * l.length) (l.foldl addF f) := by
  induction l with
  | nil => exact fun k f hf => hf
  | cons g l ih =>
    intro k f hf
    have := ih (fun x hx => h x (List.mem_cons_of_mem _ hx)) (k + 10 + 1) (addF f g) (addF_lo hf (h g List.mem_cons_self))
    rw [List.length_cons, show k + 11 * (l.length + 1) = k + 10 + 1 + 11 * l.length by omega]
    exact this
theorem tot_lo {cs : List Nat} {ps : List Par} (h : PtOk cs ps) (hl : ps.length ≤ 42) (a : List Nat) : Lo 500 (tot ps a) := by
  have := fold10 (l := (ps.filter fun p => decide (p.1 = a)).map (·.2.2)) (fun g hg => by
    obtain ⟨p, hp, rfl⟩ := List.mem_map.mp hg
    exact h.lo p (List.mem_filter.mp hp).1) 1 (0, 1) lo_zero
  rw [List.length_map] at this
  have z := List.length_filter_le (fun p : Par => decide (p.1 = a)) ps
  exact this.mono (by omega)
def lfS (x0 x1 : D) (a : List Nat) (t : Nat × Nat) (y4 y5 y6 : Option Slot) : Env := [some (.frz x0), some (.frz x1), some (.frz (.str (txt a))), some (.frz (frD t)), y4, y5, y6, none]
theorem forL_any {x0 x1 : D} {g : Env → Out} {l : List Nat} {i : Nat} {ρ0 : Env} (bad : List Nat → Bool) (x : List Nat → D) (hg : ∀ a, ∃ ρ', g (setS ρ0 [(i, x a)]) = (if bad a = true then .rt (.bl false) ρ' else .nx ρ') ∧ clr l ρ' = ρ0) : ∀ as : List (List Nat), ∃ ρ', forL (tgN i) g l (as.map x) ρ0 = if as.any bad = true then .rt (.bl false) ρ' else .nx ρ0
  | [] => ⟨ρ0, rfl⟩
  | a :: as => by
    obtain ⟨ρ1, e1, c1⟩ := hg a
    obtain ⟨ρ2, e2⟩ := forL_any (x0 := x0) (x1 := x1) bad x hg as
    rw [List.map_cons, forL_cons, tgN_e, forT_ok, e1, List.any_cons]
    cases h : bad a with
    | true => exact ⟨ρ1, rfl⟩
    | false =>
      refine ⟨ρ2, ?_⟩
      rw [if_neg Bool.false_ne_true, forK_nx, c1, e2]
      rfl
def formB (T : Tg) (ps : List Par) : Bool := !T.aheads.any (overB ps)
theorem heads_e {T : Tg} : T.aheads.map (fun v => D.str (txt v)) = .str (Str.ofString "") :: T.codes.map sg := by
  unfold Tg.aheads
  rw [List.map_cons, List.map_map]
  rfl
end Du

namespace Du
open PySem PySem.Spec PyProof.Rows L2 Dear
/-! ### the program's look at shares -/
theorem under_g {k m : Nat} {f g : Nat × Nat} (h : Lo k f) (h' : Lo m g) (hk : k + m + 1 ≤ 9000) : F_under [frD f, frD g] = .ok (.bl (decide (f.1 * g.2 < g.1 * f.2))) := by
  have s := h.mono (m := k + m + 1) (by omega)
  have s' := h'.mono (m := k + m + 1) (by omega)
  have c1 := cmulN s.b1 s'.b2 (by omega) hk
  have c2 := cmulN s'.b1 s.b2 (by omega) hk
  have d : decide ((f.1 : Int) * (g.2 : Int) < (g.1 : Int) * (f.2 : Int)) = decide (f.1 * g.2 < g.1 * f.2) := decide_eq_decide.mpr (by rw [← Int.natCast_mul, ← Int.natCast_mul]; omega)
  show outR (B_under [some (.frz (frD f)), some (.frz (frD g))]) = _
  simp [B_under_u, frD, c1, c2, d]
theorem is_amount_e {k : Nat} {f : Nat × Nat} (h : Lo k f) (hk : k ≤ 8000) : F_is_amount [frD f] = .ok (.bl true) := by
  have e := divisor_e f.1 f.2
  have fr := is_fr f.1 f.2 (Nat.gcd f.1 f.2 : Nat) (by rw [if_neg (by omega)]; exact e) (by have := h.pos; omega)
  have g1 : Nat.gcd f.1 f.2 = 1 := by rw [Nat.gcd_comm]; exact h.gcd
  rw [g1] at fr
  have fr' : F_is_fraction [frD f] = .ok (.bl true) := fr
  have un := under_g h lo_zero (by omega)
  have un' : F_under [frD f, .tup [.int 0, .int 1]] = .ok (.bl false) := by
    have e0 : frD (0, 1) = .tup [.int 0, .int 1] := rfl
    rw [← e0, un]
    congr 2
    exact decide_eq_false (by omega)
  show outR (B_is_amount [some (.frz (frD f))]) = _
  generalize frD f = fd at *
  simp [B_is_amount_u, fr', un']
theorem names_txs {cs : List Nat} : D.lst (cs.map sg) = txs (cs.map fun c => [c]) := by
  unfold txs
  rw [List.map_map]
  rfl
theorem is_part_e {cs : List Nat} {ps : List Par} (h : PtOk cs ps) {p : Par} (hp : p ∈ ps) : F_is_part [.lst (cs.map sg), partD p] = .ok (.bl true) := by
  have am := is_amount_e (h.lo p hp) (by omega)
  have i2 : dIx (partD p) (.int 2) = .ok (frD p.2.2) := rfl
  have sl : dSl (partD p) none (some 2) = .ok (.tup [.str (txt p.1), .str (txt [p.2.1])]) := rfl
  have kd : isKind "tuple" (partD p) = .ok (.bl true) := rfl
  have dl : dLen [partD p] = .ok (.int 3) := rfl
  have d1 : ∀ v : List Nat, dIn false (.str (txt v)) (.lst (cs.map sg)) = .ok (.bl (decide (v ∈ cs.map fun c => [c]))) := fun v => by
    rw [names_txs]
    unfold txs
    rw [dIn_txts]
    simp
  have m2 : [p.2.1] ∈ cs.map fun c => [c] := List.mem_map.mpr ⟨_, h.sg p hp, rfl⟩
  have e0 : (Str.ofString "" : Str) = txt [] := rfl
  show outR (B_is_part [some (.frz (.lst (cs.map sg))), some (.frz (partD p)), none, none]) = _
  have a1 := d1 p.1
  have a2 := d1 [p.2.1]
  rw [decide_eq_true m2] at a2
  generalize partD p = pd at *
  generalize D.lst (cs.map sg) = nm at *
  generalize frD p.2.2 = fd at *
  rcases h.ah p hp with e | ⟨c, hc, e⟩
  · have e1 : txt p.1 = txt [] := by rw [e]
    simp [B_is_part_u, am, i2, sl, kd, dl, a2, e0, e1]
  · have m1 : p.1 ∈ cs.map fun c => [c] := List.mem_map.mpr ⟨c, hc, e.symm⟩
    rw [decide_eq_true m1] at a1
    have ne : ¬ txt p.1 = txt [] := fun z => by
      have := txt_inj z
      rw [e] at this
      cases this
    simp [B_is_part_u, am, i2, sl, kd, dl, a1, a2, e0, ne]
theorem sum_pt {l : List (Nat × Nat)} (hl : ∀ g ∈ l, Lo 10 g) (hn : l.length ≤ 100) : F_sum_of [.lst (l.map frD)] = .ok (frD (sumF l)) := sum_f (fun g hg => (hl g hg).mono (by decide)) hn
theorem are_parts_e {T : Tg} (h : Good T) {ps : List Par} (hp : PtOk T.codes ps) (hl : ps.length ≤ 42) : F_are_parts [.lst (T.codes.map sg), .lst (ps.map partD)] = .ok (.bl (formB T ps)) := by
  have cl : T.codes.length ≤ 6 := by unfold Tg.codes; rw [List.length_map]; exact h.hi
  have c1 : eComp [3] (iAny (eVar 1)) (tgN 3) bYes (eCall F_is_part (aCons (eVar 0) (aCons (eVar 3) aNil))) [some (.lst (T.codes.map sg)), some (.lst (ps.map partD)), none, none] = .ok (.lst (ps.map fun _ => .bl true)) := by
    refine eComp_all (F := partD) _ (by simp) (by omega) fun p hpm => ⟨_, rfl, by simp, ?_⟩
    have e := is_part_e hp hpm
    generalize partD p = pd at *
    generalize D.lst (T.codes.map sg) = nm at *
    simp [e]
  have al : dAll [.lst (ps.map fun _ => .bl true)] = .ok (.bl true) := dAll_true ps (fun _ => D.bl true) fun _ _ => rfl
  have c2 : eComp [3] (iAny (eVar 1)) (tgN 3) bYes (eSl (eVar 3) pNo (pYes (eC (.int 2)))) [some (.lst (T.codes.map sg)), some (.lst (ps.map partD)), none, none] = .ok (.lst (ps.map fun p => .tup [.str (txt p.1), .str (txt [p.2.1])])) := by
    refine eComp_all (F := partD) _ (by simp) (by omega) fun p hpm => ⟨_, rfl, by simp, ?_⟩
    have sl : dSl (partD p) none (some 2) = .ok (.tup [.str (txt p.1), .str (txt [p.2.1])]) := rfl
    generalize partD p = pd at *
    generalize D.lst (T.codes.map sg) = nm at *
    simp [sl]
  have nd : (ps.map fun p => D.tup [.str (txt p.1), .str (txt [p.2.1])]).Nodup := by
    refine List.pairwise_map.mpr ((List.pairwise_map.mp hp.nd).imp fun ne e => ne ?_)
    have e1 := D.tup.inj e
    rw [List.cons.injEq, List.cons.injEq] at e1
    have e2 := txt_inj (D.str.inj e1.1)
    have e3 := txt_inj (D.str.inj e1.2.1)
    exact Prod.ext e2 (List.singleton_inj.mp e3)
  have c3 : eLenSetK (eComp [3] (iAny (eVar 1)) (tgN 3) bYes (eSl (eVar 3) pNo (pYes (eC (.int 2))))) [some (.lst (T.codes.map sg)), some (.lst (ps.map partD)), none, none] = .ok (.int (ps.length : Nat)) := by
    unfold eLenSetK
    rw [c2, Res.bind_ok]
    dsimp only
    rw [if_pos]
    · have := ddA_nodup (ps.map fun p => D.tup [.str (txt p.1), .str (txt [p.2.1])]) [] (by rw [List.nil_append]; exact nd)
      unfold ddA
      rw [this, List.nil_append, List.length_map]
    · rw [Bool.and_eq_true, List.length_map]
      refine ⟨List.all_eq_true.mpr fun d hd => ?_, Nat.blt_eq.mpr (by omega)⟩
      obtain ⟨p, _, rfl⟩ := List.mem_map.mp hd
      rfl
  have dl : dLen [.lst (ps.map partD)] = .ok (.int (ps.length : Nat)) := by rw [dLen_lst (by rw [List.length_map]; omega), List.length_map]
  have one : ∀ a : List Nat, ∃ ρ', B_are_parts_1 (setS [some (.frz (.lst (T.codes.map sg))), some (.frz (.lst (ps.map partD))), none, none] [(2, .str (txt a))]) = (if overB ps a = true then .rt (.bl false) ρ' else .nx ρ') ∧ clr [2, 3] ρ' = [some (.frz (.lst (T.codes.map sg))), some (.frz (.lst (ps.map partD))), none, none] := by
    intro a
    have c4 : eComp [3] (iAny (eVar 1)) (tgN 3) (bT (eOp dEq (eOp dIx (eVar 3) (eC (.int 0))) (eVar 2))) (eOp dIx (eVar 3) (eC (.int 2))) [some (.lst (T.codes.map sg)), some (.lst (ps.map partD)), some (.str (txt a)), none] = .ok (.lst (((ps.filter fun p => decide (p.1 = a)).map (·.2.2)).map frD)) := by
      rw [List.map_map]
      refine eComp_map (F := partD) _ _ (by simp) (by omega) fun p hpm => ⟨_, rfl, by simp, ?_, fun _ => ?_⟩
      · have i0 : dIx (partD p) (.int 0) = .ok (.str (txt p.1)) := rfl
        have ed : decide (txt p.1 = txt a) = decide (p.1 = a) := decide_eq_decide.mpr ⟨txt_inj, fun e => by rw [e]⟩
        generalize partD p = pd at *
        generalize D.lst (T.codes.map sg) = nm at *
        simp [i0, ed]
      · have i2 : dIx (partD p) (.int 2) = .ok (frD p.2.2) := rfl
        generalize partD p = pd at *
        generalize D.lst (T.codes.map sg) = nm at *
        simp [i2]
    have su := sum_pt (l := (ps.filter fun p => decide (p.1 = a)).map (·.2.2)) (fun g hg => by
      obtain ⟨p, hpm, rfl⟩ := List.mem_map.mp hg
      exact hp.lo p (List.mem_filter.mp hpm).1) (by
      have := List.length_filter_le (fun p : Par => decide (p.1 = a)) ps
      rw [List.length_map]
      omega)
    have un : F_under [.tup [.int 1, .int 1], frD (tot ps a)] = .ok (.bl (overB ps a)) := under_g (lo_nat (n := 1) (by decide)) (tot_lo hp hl a) (by omega)
    have su' : F_sum_of [.lst (((ps.filter fun p => decide (p.1 = a)).map (·.2.2)).map frD)] = .ok (frD (tot ps a)) := su
    refine ⟨[some (.frz (.lst (T.codes.map sg))), some (.frz (.lst (ps.map partD))), some (.frz (.str (txt a))), none], ?_, rfl⟩
    have v : view [] [some (.frz (.lst (T.codes.map sg))), some (.frz (.lst (ps.map partD))), some (.frz (.str (txt a))), none] = [some (.lst (T.codes.map sg)), some (.lst (ps.map partD)), some (.str (txt a)), none] := rfl
    have t : bT (eCall F_under (aCons (eC (.tup [.int 1, .int 1])) (aCons (eCall F_sum_of (aCons (eComp [3] (iAny (eVar 1)) (tgN 3) (bT (eOp dEq (eOp dIx (eVar 3) (eC (.int 0))) (eVar 2))) (eOp dIx (eVar 3) (eC (.int 2)))) aNil)) aNil))) [some (.lst (T.codes.map sg)), some (.lst (ps.map partD)), some (.str (txt a)), none] = .ok (overB ps a) := by
      rw [bT_e, eCall_e, aCons_e, aCons_e, eCall_e, aCons_e, c4, aNil_e, cons2_ok, bd_ok, su', cons2_ok]
      show bd dTru (bd F_under (.ok [.tup [.int 1, .int 1], frD (tot ps a)])) = _
      rw [bd_ok, un, bd_ok, dTru_bl]
    show B_are_parts_1 [some (.frz (.lst (T.codes.map sg))), some (.frz (.lst (ps.map partD))), some (.frz (.str (txt a))), none] = _
    rw [B_are_parts_1_u, sIf_e, v, t, atR_ok]
    cases overB ps a <;> rfl
  obtain ⟨ρ', e⟩ := forL_any (x0 := .non) (x1 := .non) (overB ps) (fun v => .str (txt v)) one T.aheads
  rw [heads_e] at e
  show outR (B_are_parts [some (.frz (.lst (T.codes.map sg))), some (.frz (.lst (ps.map partD))), none, none]) = _
  have v : view [] [some (.frz (.lst (T.codes.map sg))), some (.frz (.lst (ps.map partD))), none, none] = [some (.lst (T.codes.map sg)), some (.lst (ps.map partD)), none, none] := rfl
  have t1 : bOr (bNot (bT (eIsi "list" (eVar 1)))) (bNot (bT (eCall dAll (aCons (eComp [3] (iAny (eVar 1)) (tgN 3) bYes (eCall F_is_part (aCons (eVar 0) (aCons (eVar 3) aNil)))) aNil)))) [some (.lst (T.codes.map sg)), some (.lst (ps.map partD)), none, none] = .ok false := by
    have k : bNot (bT (eIsi "list" (eVar 1))) [some (.lst (T.codes.map sg)), some (.lst (ps.map partD)), none, none] = .ok false := rfl
    rw [bOr_e, k, bd_ok, borC_f, bNot_e, bT_e, eCall_e, aCons_e, c1, aNil_e, cons2_ok, bd_ok, al]
    rfl
  have t2 : bT (eOp dNe (eLenSetK (eComp [3] (iAny (eVar 1)) (tgN 3) bYes (eSl (eVar 3) pNo (pYes (eC (.int 2)))))) (eCall dLen (aCons (eVar 1) aNil))) [some (.lst (T.codes.map sg)), some (.lst (ps.map partD)), none, none] = .ok false := by
    have k : eCall dLen (aCons (eVar 1) aNil) [some (.lst (T.codes.map sg)), some (.lst (ps.map partD)), none, none] = .ok (.int (ps.length : Nat)) := dl
    rw [bT_e, eOp_e, c3, k, op2_ok]
    simp
  rw [B_are_parts_u]
  have e' : sSeq (sIf [] (bOr (bNot (bT (eIsi "list" (eVar 1)))) (bNot (bT (eCall dAll (aCons (eComp [3] (iAny (eVar 1)) (tgN 3) bYes (eCall F_is_part (aCons (eVar 0) (aCons (eVar 3) aNil)))) aNil))))) (sRet [] (eC (.bl false))) sPass)
      (sSeq (sIf [] (bT (eOp dNe (eLenSetK (eComp [3] (iAny (eVar 1)) (tgN 3) bYes (eSl (eVar 3) pNo (pYes (eC (.int 2)))))) (eCall dLen (aCons (eVar 1) aNil)))) (sRet [] (eC (.bl false))) sPass)
      (sSeq (sFor [] (iAny (eOp dAdd (eLst (aCons (eC (.str "")) aNil)) (eVar 0))) (tgN 2) B_are_parts_1 [2, 3]) (sRet [] (eC (.bl true)))))
      [some (.frz (.lst (T.codes.map sg))), some (.frz (.lst (ps.map partD))), none, none] = seqK (sRet [] (eC (.bl true))) (if T.aheads.any (overB ps) = true then .rt (.bl false) ρ' else .nx [some (.frz (.lst (T.codes.map sg))), some (.frz (.lst (ps.map partD))), none, none]) := by
    refine seq_to (ρ' := [some (.frz (.lst (T.codes.map sg))), some (.frz (.lst (ps.map partD))), none, none]) (by rw [sIf_e, v, t1, atR_ok]; rfl) ?_
    refine seq_to (ρ' := [some (.frz (.lst (T.codes.map sg))), some (.frz (.lst (ps.map partD))), none, none]) (by rw [sIf_e, v, t2, atR_ok]; rfl) ?_
    rw [sSeq_e, for_to (ds := .str (Str.ofString "") :: T.codes.map sg) (ρ' := [some (.frz (.lst (T.codes.map sg))), some (.frz (.lst (ps.map partD))), none, none]) ?_ rfl e]
    rw [v, iAny_e]
    show bd itemsC (op2 dAdd (.ok (.lst [.str (Str.ofString "")])) (.ok (.lst (T.codes.map sg)))) = _
    rw [op2_ok, dAdd_lst (by rw [List.length_map, List.length_singleton]; omega)]
    rfl
  rw [e']
  unfold formB
  cases T.aheads.any (overB ps) <;> rfl
theorem are_amounts_e {vs : List (Nat × Nat)} (hv : ∀ v ∈ vs, Lo 1000 v) (hl : vs.length ≤ 1000) : F_are_amounts [.lst (vs.map frD), .int (vs.length : Nat)] = .ok (.bl true) := by
  have c1 : eComp [2] (iAny (eVar 0)) (tgN 2) bYes (eCall F_is_amount (aCons (eVar 2) aNil)) [some (.lst (vs.map frD)), some (.int (vs.length : Nat)), none] = .ok (.lst (vs.map fun _ => .bl true)) := by
    refine eComp_all (F := frD) _ (by simp) (by omega) fun p hpm => ⟨_, rfl, by simp, ?_⟩
    have e := is_amount_e (hv p hpm) (by omega)
    generalize frD p = pd at *
    simp [e]
  have al : dAll [.lst (vs.map fun _ => .bl true)] = .ok (.bl true) := dAll_true vs (fun _ => D.bl true) fun _ _ => rfl
  have dl : dLen [.lst (vs.map frD)] = .ok (.int (vs.length : Nat)) := by rw [dLen_lst (by rw [List.length_map]; omega), List.length_map]
  show outR (B_are_amounts [some (.frz (.lst (vs.map frD))), some (.frz (.int (vs.length : Nat))), none]) = _
  have v : view [] [some (.frz (.lst (vs.map frD))), some (.frz (.int (vs.length : Nat))), none] = [some (.lst (vs.map frD)), some (.int (vs.length : Nat)), none] := rfl
  have k1 : eOp dEq (eCall dLen (aCons (eVar 0) aNil)) (eVar 1) [some (.lst (vs.map frD)), some (.int (vs.length : Nat)), none] = .ok (.bl true) := by
    rw [eOp_e, eCall_e, aCons_e, aNil_e]
    show op2 dEq (bd dLen (.ok [.lst (vs.map frD)])) (.ok (.int (vs.length : Nat))) = _
    rw [bd_ok, dl, op2_ok]
    simp
  have k2 : eCall dAll (aCons (eComp [2] (iAny (eVar 0)) (tgN 2) bYes (eCall F_is_amount (aCons (eVar 2) aNil))) aNil) [some (.lst (vs.map frD)), some (.int (vs.length : Nat)), none] = .ok (.bl true) := by
    rw [eCall_e, aCons_e, c1, aNil_e, cons2_ok, bd_ok, al]
  rw [B_are_amounts_u, sRet_e, v, eAnd_e]
  show outR (atR _ _ (bd (andK _ _) (.ok (.bl true)))) = _
  rw [bd_ok, andK_e, dTru_bl, bd_ok, andC_t, eAnd_e, k1, bd_ok, andK_e, dTru_bl, bd_ok, andC_t, k2, atR_ok]
  rfl
theorem are_shares_e {T : Tg} (h : Good T) {ws : List (List Nat × Nat)} {f : Nat × Nat} {ps : List Par} {vs : List (Nat × Nat)} {due : Bool} (hs : ShOk T ws f ps vs due) (hw : ws.length ≤ 20) : F_are_shares [T.d, .int (ws.length : Nat), sharesD f ps vs] = .ok (.bl (formB T ps)) := by
  have h6 := h.hi
  have am := is_amount_e hs.fl (by omega)
  have pa := are_parts_e h hs.pk hs.pl
  have va := are_amounts_e hs.vo (by rw [hs.vl]; omega)
  rw [hs.vl] at va
  have c1 : eComp [3, 4, 5] (iAny (eOp dIx (eVar 0) (eC (.int 0)))) (tgT [(tgN 3), (tgN 4), (tgN 5)]) bYes (eVar 3) [some T.d, some (.int (ws.length : Nat)), some (sharesD f ps vs), none, none, none] = .ok (.lst (T.codes.map sg)) := by
    have : T.codes.map sg = T.signs.map fun r => .str (txt [r.1]) := by unfold Tg.codes; rw [List.map_map]; rfl
    rw [this]
    generalize sharesD f ps vs = sd
    refine eComp_all (F := rowD) _ (by simp [Tg.d]) (by omega) fun r hr => ⟨_, rfl, by simp, ?_⟩
    simp
  have i0 : dIx (sharesD f ps vs) (.int 0) = .ok (frD f) := rfl
  have i1 : dIx (sharesD f ps vs) (.int 1) = .ok (.lst (ps.map partD)) := rfl
  have i2 : dIx (sharesD f ps vs) (.int 2) = .ok (.lst (vs.map frD)) := rfl
  have kd : isKind "tuple" (sharesD f ps vs) = .ok (.bl true) := rfl
  have dl : dLen [sharesD f ps vs] = .ok (.int 3) := rfl
  show outR (B_are_shares [some (.frz T.d), some (.frz (.int (ws.length : Nat))), some (.frz (sharesD f ps vs)), none, none, none]) = _
  generalize sharesD f ps vs = sd at *
  generalize frD f = fd at *
  generalize D.lst (ps.map partD) = P at *
  generalize D.lst (vs.map frD) = V at *
  generalize D.lst (T.codes.map sg) = nm at *
  generalize T.d = td at *
  cases hb : formB T ps with
  | true =>
    rw [hb] at pa
    simp [B_are_shares_u, am, pa, va, c1, i0, i1, i2, kd, dl]
  | false =>
    rw [hb] at pa
    simp [B_are_shares_u, am, pa, va, c1, i0, i1, i2, kd, dl]
end Du

namespace Du
open PySem PySem.Spec PyProof.Rows L2 Dear
/-! ### the program's dicts -/
def ptK (a : List Nat) (c : Nat) : D := .tup [.str (txt a), .str (txt [c])]
def psD (ps : List Par) : List (D × D) := ps.map fun p => (ptK p.1 p.2.1, frD p.2.2)
theorem ptK_inj {a a' : List Nat} {c c' : Nat} (e : ptK a c = ptK a' c') : a = a' ∧ c = c' := by
  have e1 := D.tup.inj e
  rw [List.cons.injEq, List.cons.injEq] at e1
  exact ⟨txt_inj (D.str.inj e1.1), List.singleton_inj.mp (txt_inj (D.str.inj e1.2.1))⟩
theorem psD_nd {cs : List Nat} {ps : List Par} (h : PtOk cs ps) : ((psD ps).map (·.1)).Nodup := by
  unfold psD
  rw [List.map_map]
  refine List.pairwise_map.mpr ((List.pairwise_map.mp h.nd).imp fun ne e => ne ?_)
  have := ptK_inj e
  exact Prod.ext this.1 this.2
theorem psD_get : ∀ (ps : List Par) (a : List Nat) (c : Nat), (dGet (psD ps) (ptK a c)).getD (frD (0, 1)) = frD (getPt ps a c)
  | [], _, _ => rfl
  | p :: ps, a, c => by
    have ih := psD_get ps a c
    unfold dGet psD getPt at ih ⊢
    rw [List.map_cons, List.find?_cons, List.find?_cons]
    by_cases e : p.1 = a ∧ p.2.1 = c
    · have : decide (ptK p.1 p.2.1 = ptK a c) = true := decide_eq_true (by rw [e.1, e.2])
      simp [e]
    · have ne : ¬ ptK p.1 p.2.1 = ptK a c := fun z => e (ptK_inj z)
      simp only [decide_eq_false ne, decide_eq_false e]
      exact ih
theorem asPairsT_map {ps : List (D × D)} (h : ∀ p ∈ ps, sKeyOk p.1 = true) : asPairsT (ps.map fun p => .tup [p.1, p.2]) = some ps := by
  induction ps with
  | nil => rfl
  | cons p r ih =>
    rw [List.map_cons]
    unfold asPairsT
    rw [if_pos (h p List.mem_cons_self), ih fun q hq => h q (List.mem_cons_of_mem _ hq)]
    rfl
theorem by_signs_e {cs : List Nat} {ps : List Par} (h : PtOk cs ps) (hl : ps.length ≤ 1000) : F_parts_by_signs [.lst (ps.map partD)] = .ok (.dct true (psD ps)) := by
  have c1 : eComp [1, 2, 3] (iAny (eVar 0)) (tgT [(tgN 1), (tgN 2), (tgN 3)]) bYes (eTup (aCons (eTup (aCons (eVar 1) (aCons (eVar 2) aNil))) (aCons (eVar 3) aNil))) [some (.lst (ps.map partD)), none, none, none] = .ok (.lst ((psD ps).map fun q => .tup [q.1, q.2])) := by
    unfold psD
    rw [List.map_map]
    refine eComp_all (F := partD) _ (by simp) (by omega) fun p hpm => ⟨_, rfl, by simp, ?_⟩
    generalize D.lst (ps.map partD) = P at *
    simp [ptK]
  have d1 : dDictT [.lst ((psD ps).map fun q => .tup [q.1, q.2])] = .ok (.dct true (psD ps)) := by
    show (match asPairsT _ with | some ps => Res.ok (D.dct true (mergeD [] ps)) | none => .bad) = _
    rw [asPairsT_map fun q hq => by
      obtain ⟨p, _, rfl⟩ := List.mem_map.mp hq
      rfl]
    dsimp only
    rw [merge_new (by simpa using psD_nd h)]
    rfl
  show outR (B_parts_by_signs [some (.frz (.lst (ps.map partD))), none, none, none]) = _
  have v : view [] [some (.frz (.lst (ps.map partD))), none, none, none] = [some (.lst (ps.map partD)), none, none, none] := rfl
  rw [B_parts_by_signs_u, sRet_e, v, eCall_e, aCons_e, c1, aNil_e, cons2_ok, bd_ok, d1, atR_ok]
  rfl
def behR (T : Tg) (a : List Nat) : List (Nat × D × D) := T.signs.filter fun r => T.comes a r.1
def behD (T : Tg) (l : List (List Nat)) : List (D × D) := l.map fun a => (.str (txt a), .lst ((behR T a).map rowD))
theorem may_come_g {T : Tg} (h : Good T) {a : List Nat} {c : Nat} (ha : a.length ≤ 1) : F_may_come [T.d, .str (txt a), .str (txt [c])] = .ok (.bl (T.comes a c)) := by
  have e1 := look_e h
  have e2 := comes_e T (c := c) ha
  show outR (B_may_come [some (.frz T.d), some (.frz (.str (txt a))), some (.frz (.str (txt [c])))]) = _
  generalize T.d = td at *
  simp [B_may_come_u, e1, e2]
theorem behind_loop {T : Tg} (h : Good T) : ∀ (l done : List (List Nat)), (∀ a ∈ l, a.length ≤ 1) → (done ++ l).Nodup → done.length + l.length ≤ 1000 →
    forL (tgN 2) B_signs_behind_1 [2, 6] (l.map fun v => .str (txt v)) [some (.frz T.d), some (.own false (.dct false (behD T done))), none, none, none, none, none] = .nx [some (.frz T.d), some (.own false (.dct false (behD T (done ++ l)))), none, none, none, none, none]
  | [], done, _, _, _ => by rw [List.append_nil]; rfl
  | a :: l, done, ha, nd, hl => by
    rw [List.length_cons] at hl
    have h6 := h.hi
    have la := ha a List.mem_cons_self
    have ih := behind_loop h l (done ++ [a]) (fun x hx => ha x (List.mem_cons_of_mem _ hx)) (by rw [List.append_assoc]; exact nd) (by rw [List.length_append, List.length_singleton]; omega)
    have na : a ∉ done := fun m => (List.nodup_append.mp nd).2.2 a m a List.mem_cons_self rfl
    have c1 : ∀ x : Option D, eComp [6] (iAny (eOp dIx (eVar 0) (eC (.int 0)))) (tgN 6) (bT (eCall F_may_come (aCons (eVar 0) (aCons (eVar 2) (aCons (eOp dIx (eVar 6) (eC (.int 0))) aNil))))) (eVar 6) [some T.d, x, some (.str (txt a)), none, none, none, none] = .ok (.lst ((behR T a).map rowD)) := fun x => by
      unfold behR
      refine eComp_map (F := rowD) _ _ (by simp [Tg.d]) (by omega) fun r hr => ⟨_, rfl, by simp, ?_, fun _ => ?_⟩
      · have mc := may_come_g h (c := r.1) la
        have i0 : dIx (rowD r) (.int 0) = .ok (.str (txt [r.1])) := rfl
        generalize rowD r = rd at *
        generalize T.d = td at *
        simp [mc, i0]
      · simp
    have nk : ∀ p ∈ behD T done, p.1 ≠ .str (txt a) := fun p hp e => by
      obtain ⟨u, hu, rfl⟩ := List.mem_map.mp hp
      have := txt_inj (D.str.inj e)
      subst this
      exact na hu
    have dp : dPut (behD T done) (.str (txt a)) (.lst ((behR T a).map rowD)) = behD T (done ++ [a]) := by
      rw [dPut_new nk]
      unfold behD
      rw [List.map_append]
      rfl
    have fl : (behD T done).length ≤ 16777215 := by unfold behD; rw [List.length_map]; omega
    rw [List.map_cons, forL_cons, tgN_e, forT_ok]
    have b : B_signs_behind_1 (setS [some (.frz T.d), some (.own false (.dct false (behD T done))), none, none, none, none, none] [(2, .str (txt a))]) = .nx [some (.frz T.d), some (.own false (.dct false (behD T (done ++ [a])))), some (.frz (.str (txt a))), none, none, none, none] := by
      have c2 := c1 none
      rw [B_signs_behind_1_u]
      generalize D.lst ((behR T a).map rowD) = R at *
      generalize T.d = td at *
      generalize behD T done = bd0 at *
      generalize behD T (done ++ [a]) = bd1 at *
      simp [c2, putDF_str fl, dp]
    rw [b, forK_nx]
    rw [List.append_assoc] at ih
    exact ih
theorem aheads_nd {T : Tg} (h : Good T) : T.aheads.Nodup := by
  unfold Tg.aheads
  rw [List.nodup_cons]
  have nd : T.codes.Nodup := h.nd
  exact ⟨by simp, List.pairwise_map.mpr (nd.imp fun ne e => ne (List.singleton_inj.mp e))⟩
theorem signs_behind_e {T : Tg} (h : Good T) : F_signs_behind [T.d] = .ok (.dct false (behD T T.aheads)) := by
  have cl : T.codes.length ≤ 6 := by unfold Tg.codes; rw [List.length_map]; exact h.hi
  have h6 := h.hi
  have l := behind_loop h T.aheads [] (fun a ha => by
    rcases List.mem_cons.mp ha with rfl | ha
    · simp
    · obtain ⟨c, _, rfl⟩ := List.mem_map.mp ha
      simp) (by rw [List.nil_append]; exact aheads_nd h) (by unfold Tg.aheads; rw [List.length_cons, List.length_map, List.length_nil]; omega)
  rw [List.nil_append, heads_e] at l
  have c1 : ∀ x : Option D, eComp [3, 4, 5] (iAny (eOp dIx (eVar 0) (eC (.int 0)))) (tgT [(tgN 3), (tgN 4), (tgN 5)]) bYes (eVar 3) [some T.d, x, none, none, none, none, none] = .ok (.lst (T.codes.map sg)) := fun x => by
    have : T.codes.map sg = T.signs.map fun r => .str (txt [r.1]) := by unfold Tg.codes; rw [List.map_map]; rfl
    rw [this]
    refine eComp_all (F := rowD) _ (by simp [Tg.d]) (by omega) fun r hr => ⟨_, rfl, by simp, ?_⟩
    simp
  show outR (B_signs_behind [some (.frz T.d), none, none, none, none, none, none]) = _
  have : B_signs_behind [some (.frz T.d), none, none, none, none, none, none] = .rt (.dct false (behD T T.aheads)) [some (.frz T.d), some (.frz (.dct false (behD T T.aheads))), none, none, none, none, none] := by
    rw [B_signs_behind_u]
    refine seq_to (ρ' := [some (.frz T.d), some (.own false (.dct false (behD T []))), none, none, none, none, none]) ?_ ?_
    · generalize T.d = td
      simp
      rfl
    refine seq_to (for_to (ds := .str (Str.ofString "") :: T.codes.map sg) (ρ' := [some (.frz T.d), some (.own false (.dct false (behD T []))), none, none, none, none, none]) ?_ rfl l) ?_
    · have v : view [] [some (.frz T.d), some (.own false (.dct false (behD T []))), none, none, none, none, none] = [some T.d, none, none, none, none, none, none] := rfl
      rw [v, iAny_e, eOp_e, c1]
      show bd itemsC (op2 dAdd (.ok (.lst [.str (Str.ofString "")])) (.ok (.lst (T.codes.map sg)))) = _
      rw [op2_ok, dAdd_lst (by rw [List.length_map, List.length_singleton]; omega)]
      rfl
    · generalize T.d = td
      generalize behD T T.aheads = bb
      simp
  rw [this]
  rfl
theorem beh_get {T : Tg} (h : Good T) {a : List Nat} (ha : a ∈ T.aheads) : dIx (.dct false (behD T T.aheads)) (.str (txt a)) = .ok (.lst ((behR T a).map rowD)) := by
  have nd : ((behD T T.aheads).map (·.1)).Nodup := by
    unfold behD
    rw [List.map_map]
    exact List.pairwise_map.mpr ((aheads_nd h).imp fun ne e => ne (txt_inj (D.str.inj e)))
  rw [dIx_dct rfl, dGet_some nd (List.mem_map.mpr ⟨a, ha, rfl⟩)]
  rfl
end Du

namespace Du
open PySem PySem.Spec PyProof.Rows L2 Dear
/-! ### whether a thing's value holds: one text's step -/
theorem wp_way {T : Tg} (h : Good T) {w : List Nat} {c : Nat} (hw : ∀ x ∈ w, x ∈ T.codes) (hc : T.ends c = true) : wpF T (w ++ [c]) = addF (wayF T w) (T.la c) := by
  have la := (la_e h hc).1
  have pos : ∀ g ∈ w.map T.pr, 0 < g.2 := fun g hg => by
    obtain ⟨x, hx, rfl⟩ := List.mem_map.mp hg
    exact (pr_e h (hw x hx)).1.pos
  have l1 : Low (wpF T (w ++ [c])) := by
    unfold wpF
    rw [List.dropLast_concat, List.getLast?_concat]
    exact fold_low _ _ la.low pos
  have l0 : Low (wayF T w) := sumF_low pos
  refine qF_inj l1 (addF_low l0.pos la.pos) ?_
  have qs : qF (wayF T w) = ((w.map T.pr).map qF).sum := qF_sum pos
  rw [qF_add l0.pos la.pos, qs]
  unfold wpF
  rw [List.dropLast_concat, List.getLast?_concat]
  show qF ((w.map T.pr).foldl addF (T.la c)) = _
  rw [(qF_fold _ _ la.pos pos).2, Rat.add_comm]
theorem way_snoc {T : Tg} {w : List Nat} {c : Nat} : wayF T (w ++ [c]) = addF (wayF T w) (T.pr c) := by
  unfold wayF sumF
  rw [List.map_append, List.foldl_append]
  rfl
def okB (T : Tg) (ps : List Par) (f : Nat × Nat) (n : Nat) (v : Nat × Nat) (u : List Nat) : Bool := !(T.isW u && decide ((costW T ps f n u).1 * v.2 < v.1 * (costW T ps f n u).2))
def stD (T : Tg) (ps : List Par) (f : Nat × Nat) (w : List Nat) : D := .tup [.str (txt w), frD (wayF T w), frD (shF ps f w)]
def hfE (x0 x1 x2 x3 x4 x5 W : D) (n k : Nat) (y9 y10 y11 y12 y13 y14 y15 : Option Slot) : Env :=
  [some (.frz x0), some (.frz x1), some (.frz x2), some (.frz x3), some (.frz x4), some (.frz x5), some (.frz (.tup [.int (n : Nat), .int 1])), some (.own false W), some (.frz (.int (k : Nat))), y9, y10, y11, y12, y13, y14, y15]
theorem hf_step {T : Tg} (h : Good T) {ps : List Par} (hp : PtOk T.codes ps) {f : Nat × Nat} (hf : Lo 62 f) {n : Nat} (hn : n ≤ 1000000000) {v : Nat × Nat} (hv : Lo 1000 v) (x0 x1 x2 x4 : D) {w : List Nat} (hw : w.length ≤ 8) (hc : ∀ c ∈ w, c ∈ T.codes) {r : Nat × D × D} (hr : r ∈ T.signs)
    (st : List (List Nat)) (hs : st.length ≤ 10000) {k : Nat} (hk : k < 5000) : ∃ (ρ' : Env) (y15 : Option Slot),
    B_holds_for_1 (hfE x0 x1 x2 (frD v) x4 (.dct true (psD ps)) (.lst (st.map (stD T ps f))) n k (some (.frz (.str (txt w)))) (some (.frz (frD (wayF T w)))) (some (.frz (frD (shF ps f w)))) (some (.frz (.str (txt [r.1])))) (some (.frz r.2.1)) (some (.frz r.2.2)) none) =
      if okB T ps f n v (w ++ [r.1]) = true then .nx (hfE x0 x1 x2 (frD v) x4 (.dct true (psD ps)) (.lst ((st ++ [w ++ [r.1]]).map (stD T ps f))) n (k + 1) (some (.frz (.str (txt w)))) (some (.frz (frD (wayF T w)))) (some (.frz (frD (shF ps f w)))) (some (.frz (.str (txt [r.1])))) (some (.frz r.2.1)) (some (.frz r.2.2)) y15)
      else .rt (.bl false) ρ' := by
  have hcr : r.1 ∈ T.codes := List.mem_map.mpr ⟨r, hr, rfl⟩
  have wl := way_lo h hw hc
  have sl := shG_lo hp w 62 f [] hf
  have gl := getPt_lo hp (lastL w) r.1
  have pe := pr_e h hcr
  have ep : r.2.1 = frD (T.pr r.1) := by
    obtain ⟨_, _, q, hq, e1, e2⟩ := pe
    rw [e2]
    have := nd_inj h.nd hq hr e1
    rw [this]
  have tm := times_f sl gl (by omega)
  rw [← shF_snoc] at tm
  have p3 := plus_f wl pe.1 (by omega)
  rw [← way_snoc] at p3
  have key : eGet2T (eVar 5) (eTup (aCons (eSl (eVar 9) (pYes (eUn dNeg (eC (.int 1)))) pNo) (aCons (eVar 12) aNil))) (eC (.tup [.int 0, .int 1])) (view [] (hfE x0 x1 x2 (frD v) x4 (.dct true (psD ps)) (.lst (st.map (stD T ps f))) n k (some (.frz (.str (txt w)))) (some (.frz (frD (wayF T w)))) (some (.frz (frD (shF ps f w)))) (some (.frz (.str (txt [r.1])))) (some (.frz r.2.1)) (some (.frz r.2.2)) none)) = .ok (frD (getPt ps (lastL w) r.1)) := by
    have s1 := dSl_last (w := w) (by omega)
    rw [eGet2T_of (kvs := psD ps) (n := ptK (lastL w) r.1) (e := frD (0, 1)) rfl ?_ rfl rfl, psD_get]
    generalize D.dct true (psD ps) = pd
    generalize D.lst (st.map (stD T ps f)) = S
    generalize frD v = vd
    generalize frD (wayF T w) = wd
    generalize frD (shF ps f w) = sd
    generalize r.2.1 = r1
    generalize r.2.2 = r2
    simp [hfE, s1, ptK]
  have a1 : sAsg [] (eCall F_times (aCons (eVar 11) (aCons (eGet2T (eVar 5) (eTup (aCons (eSl (eVar 9) (pYes (eUn dNeg (eC (.int 1)))) pNo) (aCons (eVar 12) aNil))) (eC (.tup [.int 0, .int 1]))) aNil))) (tgN 15) (hfE x0 x1 x2 (frD v) x4 (.dct true (psD ps)) (.lst (st.map (stD T ps f))) n k (some (.frz (.str (txt w)))) (some (.frz (frD (wayF T w)))) (some (.frz (frD (shF ps f w)))) (some (.frz (.str (txt [r.1])))) (some (.frz r.2.1)) (some (.frz r.2.2)) none) =
      .nx (hfE x0 x1 x2 (frD v) x4 (.dct true (psD ps)) (.lst (st.map (stD T ps f))) n k (some (.frz (.str (txt w)))) (some (.frz (frD (wayF T w)))) (some (.frz (frD (shF ps f w)))) (some (.frz (.str (txt [r.1])))) (some (.frz r.2.1)) (some (.frz r.2.2)) (some (.frz (frD (shF ps f (w ++ [r.1])))))) := by
    rw [asg_to (d := frD (shF ps f (w ++ [r.1]))) (by
      rw [eCall_e, aCons_e, aCons_e, key, aNil_e]
      show bd F_times (.ok [frD (shF ps f w), frD (getPt ps (lastL w) r.1)]) = _
      rw [bd_ok, tm])]
    rfl
  -- the wish that ends it
  have wish : ∀ W : D, bAnd (bT (eOp dNotN (eVar 14) (eC .non))) (bT (eCall F_under (aCons (eCall F_plus (aCons (eCall F_times (aCons (eVar 6) (aCons (eCall F_plus (aCons (eVar 10) (aCons (eVar 14) aNil))) aNil))) (aCons (eVar 15) aNil))) (aCons (eVar 3) aNil)))) (view [] (hfE x0 x1 x2 (frD v) x4 (.dct true (psD ps)) W n (k + 1) (some (.frz (.str (txt w)))) (some (.frz (frD (wayF T w)))) (some (.frz (frD (shF ps f w)))) (some (.frz (.str (txt [r.1])))) (some (.frz r.2.1)) (some (.frz r.2.2)) (some (.frz (frD (shF ps f (w ++ [r.1]))))))) = .ok (!okB T ps f n v (w ++ [r.1])) := by
    intro W
    have eo := ends_of h.nd hr
    unfold okB
    rw [isW_snoc, eo]
    rcases (h.row r hr).la with z | z
    · rw [z]
      generalize D.dct true (psD ps) = pd
      generalize frD v = vd
      generalize frD (wayF T w) = wd
      generalize frD (shF ps f w) = sd
      generalize frD (shF ps f (w ++ [r.1])) = sd'
      generalize r.2.1 = r1
      simp [hfE]
    · have en : T.ends r.1 = true := by rw [eo]; obtain ⟨_, _, e, _⟩ := z; rw [e]; rfl
      have la := la_e h en
      have el : r.2.2 = frD (T.la r.1) := by
        obtain ⟨_, _, q, hq, e1, e2⟩ := la
        rw [e2]
        have := nd_inj h.nd hq hr e1
        rw [this]
      have q1 := plus_f wl la.1 (by omega)
      rw [← wp_way h hc en] at q1
      have wpl : Lo 700 (wpF T (w ++ [r.1])) := by
        rw [wp_way h hc en]
        exact (addF_lo wl la.1).mono (by decide)
      have q2 := times_f (lo_nat hn) wpl (by omega)
      have sl2 := shG_lo hp (w ++ [r.1]) 62 f [] hf
      rw [List.length_append, List.length_singleton] at sl2
      have ml := mulF_lo (lo_nat hn) wpl
      have q3 := plus_f ml sl2 (by omega)
      have cl : Lo 1000 (costW T ps f n (w ++ [r.1])) := (addF_lo ml sl2).mono (by omega)
      have q4 := under_g cl hv (by omega)
      have e6 : frD (n, 1) = .tup [.int (n : Nat), .int 1] := rfl
      rw [e6] at q2
      have ec : addF (mulF (n, 1) (wpF T (w ++ [r.1]))) (shG ps f [] (w ++ [r.1])) = costW T ps f n (w ++ [r.1]) := rfl
      rw [ec] at q3
      have nn : dNotN (frD (T.la r.1)) .non = .ok (.bl true) := rfl
      have ni : isNon (frD (T.la r.1)) = false := rfl
      rw [el, ni]
      generalize decide ((costW T ps f n (w ++ [r.1])).1 * v.2 < v.1 * (costW T ps f n (w ++ [r.1])).2) = b at *
      have es : shG ps f [] (w ++ [r.1]) = shF ps f (w ++ [r.1]) := rfl
      rw [es] at q3
      generalize D.dct true (psD ps) = pd at *
      generalize frD (costW T ps f n (w ++ [r.1])) = cd at *
      generalize frD (mulF (n, 1) (wpF T (w ++ [r.1]))) = md at *
      generalize frD (wpF T (w ++ [r.1])) = qd at *
      generalize frD (T.la r.1) = ld at *
      generalize frD v = vd at *
      generalize frD (wayF T w) = wd at *
      generalize frD (shF ps f w) = sd at *
      generalize frD (shF ps f (w ++ [r.1])) = sd' at *
      generalize r.2.1 = r1 at *
      cases b <;> simp [hfE, nn, q1, q2, q3, q4]
  have wn := wish (.lst (st.map (stD T ps f)))
  refine ⟨hfE x0 x1 x2 (frD v) x4 (.dct true (psD ps)) (.lst (st.map (stD T ps f))) n (k + 1) (some (.frz (.str (txt w)))) (some (.frz (frD (wayF T w)))) (some (.frz (frD (shF ps f w)))) (some (.frz (.str (txt [r.1])))) (some (.frz r.2.1)) (some (.frz r.2.2)) (some (.frz (frD (shF ps f (w ++ [r.1]))))), some (.frz (frD (shF ps f (w ++ [r.1])))), ?_⟩
  rw [B_holds_for_1_u]
  refine seq_to a1 ?_
  refine seq_to (ρ' := hfE x0 x1 x2 (frD v) x4 (.dct true (psD ps)) (.lst (st.map (stD T ps f))) n (k + 1) (some (.frz (.str (txt w)))) (some (.frz (frD (wayF T w)))) (some (.frz (frD (shF ps f w)))) (some (.frz (.str (txt [r.1])))) (some (.frz r.2.1)) (some (.frz r.2.2)) (some (.frz (frD (shF ps f (w ++ [r.1])))))) ?_ ?_
  · generalize D.dct true (psD ps) = pd
    generalize D.lst (st.map (stD T ps f)) = S
    generalize frD v = vd
    generalize frD (wayF T w) = wd
    generalize frD (shF ps f w) = sd
    generalize frD (shF ps f (w ++ [r.1])) = sd'
    generalize r.2.1 = r1
    generalize r.2.2 = r2
    simp [hfE]
  refine seq_to (ρ' := hfE x0 x1 x2 (frD v) x4 (.dct true (psD ps)) (.lst (st.map (stD T ps f))) n (k + 1) (some (.frz (.str (txt w)))) (some (.frz (frD (wayF T w)))) (some (.frz (frD (shF ps f w)))) (some (.frz (.str (txt [r.1])))) (some (.frz r.2.1)) (some (.frz r.2.2)) (some (.frz (frD (shF ps f (w ++ [r.1])))))) ?_ ?_
  · generalize D.dct true (psD ps) = pd
    generalize D.lst (st.map (stD T ps f)) = S
    generalize frD v = vd
    generalize frD (wayF T w) = wd
    generalize frD (shF ps f w) = sd
    generalize frD (shF ps f (w ++ [r.1])) = sd'
    generalize r.2.1 = r1
    generalize r.2.2 = r2
    simp [hfE, show ¬ (5000 : Int) < (k : Int) + 1 by omega, show ¬ 5000 < k + 1 by omega]
  rw [sSeq_e, sIf_e, wn, atR_ok]
  cases hb : okB T ps f n v (w ++ [r.1]) with
  | false => rfl
  | true =>
    rw [if_pos rfl]
    have es : stD T ps f (w ++ [r.1]) = .tup [.str (txt (w ++ [r.1])), frD (wayF T (w ++ [r.1])), frD (shF ps f (w ++ [r.1]))] := rfl
    rw [List.map_append, List.map_cons, List.map_nil, es, ep]
    generalize D.dct true (psD ps) = pd at *
    generalize frD v = vd at *
    generalize frD (wayF T (w ++ [r.1])) = wd' at *
    generalize frD (wayF T w) = wd at *
    generalize frD (shF ps f w) = sd at *
    generalize frD (shF ps f (w ++ [r.1])) = sd' at *
    generalize frD (T.pr r.1) = r1 at *
    generalize r.2.2 = r2 at *
    simp [hfE, p3, txt_app, txt_length, show w.length + 1 ≤ 16777215 by omega, show st.length ≤ 16777215 by omega]
end Du

namespace Du
open PySem PySem.Spec PyProof.Rows L2 Dear
/-! ### whether a thing's value holds: all texts -/
theorem way_q {T : Tg} (h : Good T) {w : List Nat} (hw : ∀ x ∈ w, x ∈ T.codes) : qF (wayF T w) = ((w.map T.pr).map qF).sum ∧ Low (wayF T w) := by
  have pos : ∀ g ∈ w.map T.pr, 0 < g.2 := fun g hg => by
    obtain ⟨x, hx, rfl⟩ := List.mem_map.mp hg
    exact (pr_e h (hw x hx)).1.pos
  exact ⟨qF_sum pos, sumF_low pos⟩
theorem le_add_nn {a b : Rat} (h : 0 ≤ b) : a ≤ a + b := by
  have := (Rat.add_le_add_left (c := a)).mpr h
  rwa [Rat.add_zero] at this
theorem costW_q {T : Tg} (h : Good T) {ps : List Par} (hp : PtOk T.codes ps) {f : Nat × Nat} (hf : Lo 62 f) {n : Nat} (hn : n ≤ 1000000000) {x : List Nat} {c : Nat} (hx : ∀ d ∈ x, d ∈ T.codes) (hc : T.ends c = true) :
    Low (costW T ps f n (x ++ [c])) ∧ qF (costW T ps f n (x ++ [c])) = qF (n, 1) * (qF (wayF T x) + qF (T.la c)) + qF (shF ps f (x ++ [c])) := by
  have la := (la_e h hc).1
  have wl := (way_q h hx).2
  have sl := shG_lo hp (x ++ [c]) 62 f [] hf
  have nl := lo_nat hn
  have wp := wp_way h hx hc
  have al := addF_low wl.pos la.pos
  have ml := mulF_low nl.pos al.pos
  unfold costW
  rw [wp]
  exact ⟨addF_low ml.pos sl.pos, by rw [qF_add ml.pos sl.pos, qF_mul nl.pos al.pos, qF_add wl.pos la.pos]⟩
theorem flat_same {α β : Type} {f g : α → List β} : ∀ {l : List α}, (∀ a ∈ l, f a = g a) → l.flatMap f = l.flatMap g
  | [], _ => rfl
  | a :: l, h => by rw [List.flatMap_cons, List.flatMap_cons, h a List.mem_cons_self, flat_same fun x hx => h x (List.mem_cons_of_mem _ hx)]
def wk (T : Tg) (w : List Nat) : List (List Nat) := T.below (T.long - w.length) w
def work (T : Tg) (st : List (List Nat)) : Nat := (st.map fun w => (wk T w).length).sum
end Du

namespace Du
open PySem PySem.Spec PyProof.Rows L2 Dear
/-! ### the whole search -/
def yA : Option (D × D × D) → Option Slot
  | none => none
  | some (a, _, _) => some (.frz a)
def yB : Option (D × D × D) → Option Slot
  | none => none
  | some (_, b, _) => some (.frz b)
def yC : Option (D × D × D) → Option Slot
  | none => none
  | some (_, _, c) => some (.frz c)
def hfY (x0 x1 x2 x3 x4 x5 W : D) (n k : Nat) (y : Option (D × D × D)) : Env := hfE x0 x1 x2 x3 x4 x5 W n k (yA y) (yB y) (yC y) none none none none
theorem st_ly {T : Tg} (h : Good T) {ps : List Par} {f : Nat × Nat} {st : List (List Nat)} (hc : ∀ w ∈ st, ∀ c ∈ w, c ∈ T.codes) : ∀ d ∈ st.map (stD T ps f), Ly 50 d := fun d hd => by
  obtain ⟨w, hw, rfl⟩ := List.mem_map.mp hd
  have fl : ∀ g : Nat × Nat, Ly 2 (frD g) := fun g => (Ly.tup (n := 1) (forall_cons .int (forall_cons .int forall_nil)))
  exact (Ly.tup (n := 2) (forall_cons (.txt fun x hx => code_asc h (hc w hw x hx)) (forall_cons (fl _) (forall_cons (fl _) forall_nil)))).mono (by decide)
theorem hf_pop {T : Tg} {ps : List Par} {f : Nat × Nat} (x0 x1 x2 x3 x4 x5 : D) (n k : Nat) (y : Option (D × D × D)) (st : List (List Nat)) (w : List Nat) : sPop 7 (tgT [(tgN 9), (tgN 10), (tgN 11)]) (hfY x0 x1 x2 x3 x4 x5 (.lst ((st ++ [w]).map (stD T ps f))) n k y) =
    .nx (hfY x0 x1 x2 x3 x4 x5 (.lst (st.map (stD T ps f))) n k (some (.str (txt w), frD (wayF T w), frD (shF ps f w)))) := by
  have tg : tgT [(tgN 9), (tgN 10), (tgN 11)] (stD T ps f w) = .ok [(9, .str (txt w)), (10, frD (wayF T w)), (11, frD (shF ps f w))] := by
    unfold stD
    simp
  have l : ((st ++ [w]).map (stD T ps f))[((st ++ [w]).map (stD T ps f)).length - 1]? = some (stD T ps f w) := by
    rw [List.map_append, List.map_cons, List.map_nil, List.length_append, List.length_singleton, Nat.add_sub_cancel, List.getElem?_append_right (Nat.le_refl _), Nat.sub_self]
    rfl
  have dl : ((st ++ [w]).map (stD T ps f)).dropLast = st.map (stD T ps f) := by
    rw [List.map_append, List.map_cons, List.map_nil, List.dropLast_concat]
  unfold sPop
  have o : ownL (hfY x0 x1 x2 x3 x4 x5 (.lst ((st ++ [w]).map (stD T ps f))) n k y) 7 = some (false, (st ++ [w]).map (stD T ps f)) := rfl
  rw [o]
  dsimp only
  rw [l]
  dsimp only
  rw [tg, dl]
  rfl
theorem hf_cond {T : Tg} (h : Good T) {ps : List Par} {f : Nat × Nat} (x0 x1 x2 x3 x4 x5 : D) (n k : Nat) (y : Option (D × D × D)) {st : List (List Nat)} (hc : ∀ w ∈ st, ∀ c ∈ w, c ∈ T.codes) :
    bT (eOp dNe (eVar 7) (eLst aNil)) (view [7] (hfY x0 x1 x2 x3 x4 x5 (.lst (st.map (stD T ps f))) n k y)) = .ok (!st.isEmpty) := by
  have e := dNe_nil (st_ly (ps := ps) (f := f) h hc)
  rw [List.isEmpty_map] at e
  have v : eVar 7 (view [7] (hfY x0 x1 x2 x3 x4 x5 (.lst (st.map (stD T ps f))) n k y)) = .ok (.lst (st.map (stD T ps f))) := by cases y <;> rfl
  have v2 : ∀ ρ : VEnv, eLst aNil ρ = .ok (.lst []) := fun ρ => rfl
  rw [bT_e, eOp_e, v, v2, op2_ok, e, bd_ok, dTru_bl]
theorem last_aheads {T : Tg} {w : List Nat} (hc : ∀ c ∈ w, c ∈ T.codes) : lastL w ∈ T.aheads := by
  unfold Tg.aheads
  rw [lastL_eq]
  cases e : w.getLast? with
  | none => exact List.mem_cons_self
  | some c => exact List.mem_cons_of_mem _ (List.mem_map.mpr ⟨c, hc c (List.mem_of_getLast? e), rfl⟩)
/-- whether a thing's value holds -/
def holdsB (T : Tg) (ps : List Par) (f : Nat × Nat) (n : Nat) (v : Nat × Nat) : Bool := (T.upto T.long).all (okB T ps f n v)
end Du

namespace Du
open PySem PySem.Spec PyProof.Rows L2 Dear
/-! ### shares let by, as the law asks it -/
def wantD (p : List Nat × Nat) : D := .tup [.str (txt p.1), .int (p.2 : Nat)]
def lsE (T : Tg) (x1 x2 : D) (f : Nat × Nat) (x4 x5 : D) (ps : List Par) (y8 y9 y10 : Option Slot) : Env :=
  [some (.frz T.d), some (.frz x1), some (.frz x2), some (.frz (frD f)), some (.frz x4), some (.frz x5), some (.frz (.dct true (psD ps))), some (.frz (.dct false (behD T T.aheads))), y8, y9, y10]
end Du

namespace Du
open PySem PySem.Spec PyProof.Rows L2 Dear
/-! ### whether a thing's value holds, with the bound of texts looked at -/
def contB (T : Tg) (n : Nat) (v : Nat × Nat) (w : List Nat) : Bool := decide ((mulF (n, 1) (wayF T w)).1 * v.2 < v.1 * (mulF (n, 1) (wayF T w)).2)
def Tg.expl (T : Tg) (n : Nat) (v : Nat × Nat) : Nat → List Nat → List (List Nat)
  | 0, _ => []
  | m + 1, w => if contB T n v w = true then (T.longer w).flatMap fun u => u :: T.expl n v m u else []
def xk (T : Tg) (n : Nat) (v : Nat × Nat) (w : List Nat) : List (List Nat) := T.expl n v (T.long - w.length) w
def xork (T : Tg) (n : Nat) (v : Nat × Nat) (st : List (List Nat)) : Nat := (st.map fun w => (xk T n v w).length).sum
theorem xork_app {T : Tg} {n : Nat} {v : Nat × Nat} (a b : List (List Nat)) : xork T n v (a ++ b) = xork T n v a + xork T n v b := by
  unfold xork
  rw [List.map_append, List.sum_append]
theorem xork_one {T : Tg} {n : Nat} {v : Nat × Nat} (w : List Nat) : xork T n v [w] = (xk T n v w).length := by unfold xork; simp
theorem xk_step {T : Tg} {n : Nat} {v : Nat × Nat} {w : List Nat} (hl : w.length < T.long) (hc : contB T n v w = true) : xk T n v w = (T.longer w).flatMap fun u => u :: xk T n v u := by
  have e : T.long - w.length = (T.long - (w.length + 1)) + 1 := by omega
  unfold xk
  rw [e]
  show (if contB T n v w = true then (T.longer w).flatMap _ else []) = (T.longer w).flatMap _
  rw [if_pos hc]
  refine flat_same fun u hu => ?_
  unfold Tg.longer at hu
  obtain ⟨r, _, rfl⟩ := List.mem_map.mp hu
  rw [List.length_append, List.length_singleton]
theorem xk_stop {T : Tg} {n : Nat} {v : Nat × Nat} {w : List Nat} (h : w.length = T.long ∨ contB T n v w = false) : xk T n v w = [] := by
  unfold xk
  rcases h with h | h
  · rw [h, Nat.sub_self]
    rfl
  · cases T.long - w.length with
    | zero => rfl
    | succ m =>
      show (if contB T n v w = true then _ else []) = _
      rw [h]
      rfl
theorem flatx_len {T : Tg} {n : Nat} {v : Nat × Nat} : ∀ l : List (List Nat), (l.flatMap fun u => u :: xk T n v u).length = l.length + xork T n v l
  | [] => rfl
  | u :: l => by
    rw [List.flatMap_cons, List.length_append, flatx_len l, List.length_cons, List.length_cons]
    show _ = _ + ((xk T n v u).length + xork T n v l)
    omega
theorem flatx_all {T : Tg} {n : Nat} {v : Nat × Nat} {p : List Nat → Bool} : ∀ l : List (List Nat), (l.flatMap fun u => u :: xk T n v u).all p = (l.all p && l.all fun u => (xk T n v u).all p)
  | [] => rfl
  | u :: l => by
    rw [List.flatMap_cons, List.all_append, flatx_all l, List.all_cons, List.all_cons, List.all_cons]
    cases p u <;> cases l.all p <;> cases (xk T n v u).all p <;> simp
theorem hf_over {T : Tg} {ps : List Par} (hp : PtOk T.codes ps) {f : Nat × Nat} (hf : Lo 62 f) {n : Nat} {v : Nat × Nat} (x0 x1 x2 x4 : D) {w : List Nat} (hw : w.length ≤ 8) {r : Nat × D × D} (W : D) {k : Nat} (hk : k = 5000) : ∃ ρ' : Env,
    B_holds_for_1 (hfE x0 x1 x2 (frD v) x4 (.dct true (psD ps)) W n k (some (.frz (.str (txt w)))) (some (.frz (frD (wayF T w)))) (some (.frz (frD (shF ps f w)))) (some (.frz (.str (txt [r.1])))) (some (.frz r.2.1)) (some (.frz r.2.2)) none) = .rt (.bl false) ρ' := by
  have sl := shG_lo hp w 62 f [] hf
  have gl := getPt_lo hp (lastL w) r.1
  have tm := times_f sl gl (by omega)
  rw [← shF_snoc] at tm
  have key : eGet2T (eVar 5) (eTup (aCons (eSl (eVar 9) (pYes (eUn dNeg (eC (.int 1)))) pNo) (aCons (eVar 12) aNil))) (eC (.tup [.int 0, .int 1])) (view [] (hfE x0 x1 x2 (frD v) x4 (.dct true (psD ps)) W n k (some (.frz (.str (txt w)))) (some (.frz (frD (wayF T w)))) (some (.frz (frD (shF ps f w)))) (some (.frz (.str (txt [r.1])))) (some (.frz r.2.1)) (some (.frz r.2.2)) none)) = .ok (frD (getPt ps (lastL w) r.1)) := by
    have s1 := dSl_last (w := w) (by omega)
    rw [eGet2T_of (kvs := psD ps) (n := ptK (lastL w) r.1) (e := frD (0, 1)) rfl ?_ rfl rfl, psD_get]
    generalize D.dct true (psD ps) = pd
    generalize frD v = vd
    generalize frD (wayF T w) = wd
    generalize frD (shF ps f w) = sd
    generalize r.2.1 = r1
    generalize r.2.2 = r2
    simp [hfE, s1, ptK]
  have a1 : sAsg [] (eCall F_times (aCons (eVar 11) (aCons (eGet2T (eVar 5) (eTup (aCons (eSl (eVar 9) (pYes (eUn dNeg (eC (.int 1)))) pNo) (aCons (eVar 12) aNil))) (eC (.tup [.int 0, .int 1]))) aNil))) (tgN 15) (hfE x0 x1 x2 (frD v) x4 (.dct true (psD ps)) W n k (some (.frz (.str (txt w)))) (some (.frz (frD (wayF T w)))) (some (.frz (frD (shF ps f w)))) (some (.frz (.str (txt [r.1])))) (some (.frz r.2.1)) (some (.frz r.2.2)) none) =
      .nx (hfE x0 x1 x2 (frD v) x4 (.dct true (psD ps)) W n k (some (.frz (.str (txt w)))) (some (.frz (frD (wayF T w)))) (some (.frz (frD (shF ps f w)))) (some (.frz (.str (txt [r.1])))) (some (.frz r.2.1)) (some (.frz r.2.2)) (some (.frz (frD (shF ps f (w ++ [r.1])))))) := by
    rw [asg_to (d := frD (shF ps f (w ++ [r.1]))) (by
      rw [eCall_e, aCons_e, aCons_e, key, aNil_e]
      show bd F_times (.ok [frD (shF ps f w), frD (getPt ps (lastL w) r.1)]) = _
      rw [bd_ok, tm])]
    rfl
  refine ⟨hfE x0 x1 x2 (frD v) x4 (.dct true (psD ps)) W n (k + 1) (some (.frz (.str (txt w)))) (some (.frz (frD (wayF T w)))) (some (.frz (frD (shF ps f w)))) (some (.frz (.str (txt [r.1])))) (some (.frz r.2.1)) (some (.frz r.2.2)) (some (.frz (frD (shF ps f (w ++ [r.1]))))), ?_⟩
  rw [B_holds_for_1_u]
  refine seq_to a1 ?_
  subst hk
  generalize D.dct true (psD ps) = pd
  generalize frD v = vd
  generalize frD (wayF T w) = wd
  generalize frD (shF ps f w) = sd
  generalize frD (shF ps f (w ++ [r.1])) = sd'
  generalize r.2.1 = r1
  generalize r.2.2 = r2
  simp [hfE]
theorem hf_rowsG {T : Tg} (h : Good T) {ps : List Par} (hp : PtOk T.codes ps) {f : Nat × Nat} (hf : Lo 62 f) {n : Nat} (hn : n ≤ 1000000000) {v : Nat × Nat} (hv : Lo 1000 v) (x0 x1 x2 x4 : D) {w : List Nat} (hw : w.length ≤ 8) (hc : ∀ c ∈ w, c ∈ T.codes) :
    ∀ (rs : List (Nat × D × D)) (st : List (List Nat)) (k : Nat), (∀ r ∈ rs, r ∈ T.signs) → st.length ≤ k + 1 → k ≤ 5000 → ∃ ρ' : Env,
      forL (tgT [(tgN 12), (tgN 13), (tgN 14)]) B_holds_for_1 [12, 13, 14, 15] (rs.map rowD) (hfE x0 x1 x2 (frD v) x4 (.dct true (psD ps)) (.lst (st.map (stD T ps f))) n k (some (.frz (.str (txt w)))) (some (.frz (frD (wayF T w)))) (some (.frz (frD (shF ps f w)))) none none none none) =
        if ((rs.all fun r => okB T ps f n v (w ++ [r.1])) && decide (k + rs.length ≤ 5000)) = true then .nx (hfE x0 x1 x2 (frD v) x4 (.dct true (psD ps)) (.lst ((st ++ rs.map fun r => w ++ [r.1]).map (stD T ps f))) n (k + rs.length) (some (.frz (.str (txt w)))) (some (.frz (frD (wayF T w)))) (some (.frz (frD (shF ps f w)))) none none none none)
        else .rt (.bl false) ρ'
  | [], st, k, _, _, hk => ⟨[], by rw [show st ++ [].map (fun r : Nat × D × D => w ++ [r.1]) = st from List.append_nil st, if_pos (by simpa using hk)]; rfl⟩
  | r :: rs, st, k, hr, hs, hk => by
    rw [List.map_cons, forL_cons]
    have tg : tgT [(tgN 12), (tgN 13), (tgN 14)] (rowD r) = .ok [(12, .str (txt [r.1])), (13, r.2.1), (14, r.2.2)] := by
      unfold rowD
      simp
    rw [tg, forT_ok]
    have st1 : setS (hfE x0 x1 x2 (frD v) x4 (.dct true (psD ps)) (.lst (st.map (stD T ps f))) n k (some (.frz (.str (txt w)))) (some (.frz (frD (wayF T w)))) (some (.frz (frD (shF ps f w)))) none none none none) [(12, .str (txt [r.1])), (13, r.2.1), (14, r.2.2)] =
      hfE x0 x1 x2 (frD v) x4 (.dct true (psD ps)) (.lst (st.map (stD T ps f))) n k (some (.frz (.str (txt w)))) (some (.frz (frD (wayF T w)))) (some (.frz (frD (shF ps f w)))) (some (.frz (.str (txt [r.1])))) (some (.frz r.2.1)) (some (.frz r.2.2)) none := rfl
    rw [st1]
    by_cases hk5 : k = 5000
    · obtain ⟨ρ', e⟩ := hf_over (T := T) (n := n) (v := v) hp hf x0 x1 x2 x4 hw (r := r) (.lst (st.map (stD T ps f))) hk5
      refine ⟨ρ', ?_⟩
      rw [e, List.length_cons, decide_eq_false (by omega), Bool.and_false]
      rfl
    obtain ⟨ρ1, y15, e1⟩ := hf_step h hp hf hn hv x0 x1 x2 x4 hw hc (hr r List.mem_cons_self) st (by omega) (k := k) (by omega)
    obtain ⟨ρ2, e2⟩ := hf_rowsG h hp hf hn hv x0 x1 x2 x4 hw hc rs (st ++ [w ++ [r.1]]) (k + 1) (fun x hx => hr x (List.mem_cons_of_mem _ hx)) (by rw [List.length_append, List.length_singleton]; omega) (by omega)
    rw [e1, List.all_cons]
    cases b : okB T ps f n v (w ++ [r.1]) with
    | false => exact ⟨ρ1, rfl⟩
    | true =>
      refine ⟨ρ2, ?_⟩
      rw [if_pos rfl, forK_nx, Bool.true_and]
      have cl : clr [12, 13, 14, 15] (hfE x0 x1 x2 (frD v) x4 (.dct true (psD ps)) (.lst ((st ++ [w ++ [r.1]]).map (stD T ps f))) n (k + 1) (some (.frz (.str (txt w)))) (some (.frz (frD (wayF T w)))) (some (.frz (frD (shF ps f w)))) (some (.frz (.str (txt [r.1])))) (some (.frz r.2.1)) (some (.frz r.2.2)) y15) =
        hfE x0 x1 x2 (frD v) x4 (.dct true (psD ps)) (.lst ((st ++ [w ++ [r.1]]).map (stD T ps f))) n (k + 1) (some (.frz (.str (txt w)))) (some (.frz (frD (wayF T w)))) (some (.frz (frD (shF ps f w)))) none none none none := rfl
      rw [cl, e2, List.append_assoc, List.length_cons, show k + 1 + rs.length = k + (rs.length + 1) by omega]
      rfl
theorem hf_bodyG {T : Tg} (h : Good T) {ps : List Par} (hp : PtOk T.codes ps) {f : Nat × Nat} (hf : Lo 62 f) {n : Nat} (hn : n ≤ 1000000000) {v : Nat × Nat} (hv : Lo 1000 v) (x2 x4 : D) {w : List Nat} (hw : w.length ≤ T.long) (hc : ∀ c ∈ w, c ∈ T.codes)
    (st : List (List Nat)) (k : Nat) (y : Option (D × D × D)) (hs : st.length ≤ k) (hk : k ≤ 5000) :
    (∃ ρ', ((xk T n v w).all (okB T ps f n v) && decide (k + xork T n v [w] ≤ 5000)) = false ∧ B_holds_for_2 (hfY (.int T.long) (.dct false (behD T T.aheads)) x2 (frD v) x4 (.dct true (psD ps)) (.lst ((st ++ [w]).map (stD T ps f))) n k y) = .rt (.bl false) ρ') ∨
    ∃ (st' : List (List Nat)) (k' : Nat) (y' : Option (D × D × D)), (∀ u ∈ st', u.length ≤ T.long ∧ ∀ c ∈ u, c ∈ T.codes) ∧ st'.length + xork T n v st' = xork T n v [w] ∧ k' = k + st'.length ∧ k' ≤ 5000 ∧ ((xk T n v w).all (okB T ps f n v) = st'.all fun u => (xk T n v u).all (okB T ps f n v)) ∧
      (B_holds_for_2 (hfY (.int T.long) (.dct false (behD T T.aheads)) x2 (frD v) x4 (.dct true (psD ps)) (.lst ((st ++ [w]).map (stD T ps f))) n k y) = .nx (hfY (.int T.long) (.dct false (behD T T.aheads)) x2 (frD v) x4 (.dct true (psD ps)) (.lst ((st ++ st').map (stD T ps f))) n k' y') ∨
       B_holds_for_2 (hfY (.int T.long) (.dct false (behD T T.aheads)) x2 (frD v) x4 (.dct true (psD ps)) (.lst ((st ++ [w]).map (stD T ps f))) n k y) = .ct (hfY (.int T.long) (.dct false (behD T T.aheads)) x2 (frD v) x4 (.dct true (psD ps)) (.lst ((st ++ st').map (stD T ps f))) n k' y')) := by
  have l8 := h.l1
  have wl := way_lo h (by omega) hc
  have nl := lo_nat hn
  have tm := times_f nl wl (by omega)
  have un := under_g (mulF_lo nl wl) hv (by omega)
  have e6 : frD (n, 1) = .tup [.int (n : Nat), .int 1] := rfl
  rw [e6] at tm
  have pop := hf_pop (T := T) (ps := ps) (f := f) (.int T.long) (.dct false (behD T T.aheads)) x2 (frD v) x4 (.dct true (psD ps)) n k y st w
  rw [B_holds_for_2_u]
  have cond : bOr (bT (eOp dEq (eCall dLen (aCons (eVar 9) aNil)) (eVar 0))) (bNot (bT (eCall F_under (aCons (eCall F_times (aCons (eVar 6) (aCons (eVar 10) aNil))) (aCons (eVar 3) aNil))))) (view [] (hfY (.int T.long) (.dct false (behD T T.aheads)) x2 (frD v) x4 (.dct true (psD ps)) (.lst (st.map (stD T ps f))) n k (some (.str (txt w), frD (wayF T w), frD (shF ps f w))))) =
      .ok (decide (w.length = T.long) || !contB T n v w) := by
    unfold contB
    have ed : decide ((w.length : Int) = (T.long : Int)) = decide (w.length = T.long) := decide_eq_decide.mpr (by omega)
    generalize decide ((mulF (n, 1) (wayF T w)).1 * v.2 < v.1 * (mulF (n, 1) (wayF T w)).2) = b at *
    generalize frD (mulF (n, 1) (wayF T w)) = md at *
    generalize D.dct true (psD ps) = pd at *
    generalize D.dct false (behD T T.aheads) = bd0 at *
    generalize D.lst (st.map (stD T ps f)) = S at *
    generalize frD v = vd at *
    generalize frD (wayF T w) = wd at *
    generalize frD (shF ps f w) = sd at *
    by_cases e : w.length = T.long
    · rw [decide_eq_true e] at ed ⊢
      simp [hfY, hfE, yA, yB, yC, txt_length, show w.length ≤ 16777215 by omega, ed]
    · rw [decide_eq_false e] at ed ⊢
      simp [hfY, hfE, yA, yB, yC, txt_length, show w.length ≤ 16777215 by omega, ed, tm, un]
  cases q : decide (w.length = T.long) || !contB T n v w with
  | true =>
    have x0 : xk T n v w = [] := xk_stop (by
      rw [Bool.or_eq_true] at q
      rcases q with q | q
      · exact .inl (by simpa using q)
      · exact .inr (by simpa using q))
    refine .inr ⟨[], k, some (.str (txt w), frD (wayF T w), frD (shF ps f w)), (fun u hu => nomatch hu), ?_, rfl, hk, (by rw [x0]; rfl), .inr ?_⟩
    · rw [xork_one, x0]
      rfl
    · rw [sSeq_e, pop, seqK_nx, sSeq_e, sIf_e, cond, q, atR_ok, List.append_nil]
      rfl
  | false =>
    rw [Bool.or_eq_false_iff] at q
    have ne : w.length ≠ T.long := by simpa using q.1
    have cb : contB T n v w = true := by simpa using q.2
    have q' : (decide (w.length = T.long) || !contB T n v w) = false := by rw [q.1, q.2]; rfl
    have ws := xk_step (T := T) (w := w) (by omega) cb
    have wlen : xork T n v [w] = (T.longer w).length + xork T n v (T.longer w) := by
      rw [xork_one, ws, flatx_len]
    have rl : (behR T (lastL w)).length = (T.longer w).length := by unfold behR Tg.longer; rw [List.length_map]
    obtain ⟨ρ', e⟩ := hf_rowsG h hp hf hn hv (.int T.long) (.dct false (behD T T.aheads)) x2 x4 (by omega) hc (behR T (lastL w)) st k (fun r hr => (List.mem_filter.mp hr).1) (by omega) hk
    have lg : ((behR T (lastL w)).map fun r => w ++ [r.1]) = T.longer w := rfl
    have al : ((behR T (lastL w)).all fun r => okB T ps f n v (w ++ [r.1])) = (T.longer w).all (okB T ps f n v) := by
      rw [← lg, List.all_map]
      rfl
    have wall : (xk T n v w).all (okB T ps f n v) = ((T.longer w).all (okB T ps f n v) && (T.longer w).all fun u => (xk T n v u).all (okB T ps f n v)) := by rw [ws, flatx_all]
    have go : sSeq (sPop 7 (tgT [(tgN 9), (tgN 10), (tgN 11)])) (sSeq (sIf [] (bOr (bT (eOp dEq (eCall dLen (aCons (eVar 9) aNil)) (eVar 0))) (bNot (bT (eCall F_under (aCons (eCall F_times (aCons (eVar 6) (aCons (eVar 10) aNil))) (aCons (eVar 3) aNil)))))) sCont sPass)
        (sFor [] (iAny (eOp dIx (eVar 1) (eSl (eVar 9) (pYes (eUn dNeg (eC (.int 1)))) pNo))) (tgT [(tgN 12), (tgN 13), (tgN 14)]) B_holds_for_1 [12, 13, 14, 15])) (hfY (.int T.long) (.dct false (behD T T.aheads)) x2 (frD v) x4 (.dct true (psD ps)) (.lst ((st ++ [w]).map (stD T ps f))) n k y) =
        if ((T.longer w).all (okB T ps f n v) && decide (k + (T.longer w).length ≤ 5000)) = true then .nx (hfE (.int T.long) (.dct false (behD T T.aheads)) x2 (frD v) x4 (.dct true (psD ps)) (.lst ((st ++ T.longer w).map (stD T ps f))) n (k + (T.longer w).length) (some (.frz (.str (txt w)))) (some (.frz (frD (wayF T w)))) (some (.frz (frD (shF ps f w)))) none none none none) else .rt (.bl false) ρ' := by
      rw [al, lg, rl] at e
      refine seq_to pop ?_
      refine seq_to (ρ' := hfY (.int T.long) (.dct false (behD T T.aheads)) x2 (frD v) x4 (.dct true (psD ps)) (.lst (st.map (stD T ps f))) n k (some (.str (txt w), frD (wayF T w), frD (shF ps f w)))) (by rw [sIf_e, cond, q', atR_ok]; rfl) ?_
      refine for_to (ds := (behR T (lastL w)).map rowD) (ρ' := hfE (.int T.long) (.dct false (behD T T.aheads)) x2 (frD v) x4 (.dct true (psD ps)) (.lst (st.map (stD T ps f))) n k (some (.frz (.str (txt w)))) (some (.frz (frD (wayF T w)))) (some (.frz (frD (shF ps f w)))) none none none none) ?_ rfl e
      have s1 := dSl_last (w := w) (by omega)
      have bg := beh_get h (last_aheads hc)
      have k1 : eSl (eVar 9) (pYes (eUn dNeg (eC (.int 1)))) pNo (view [] (hfY (.int T.long) (.dct false (behD T T.aheads)) x2 (frD v) x4 (.dct true (psD ps)) (.lst (st.map (stD T ps f))) n k (some (.str (txt w), frD (wayF T w), frD (shF ps f w))))) = .ok (.str (txt (lastL w))) := s1
      have k2 : eVar 1 (view [] (hfY (.int T.long) (.dct false (behD T T.aheads)) x2 (frD v) x4 (.dct true (psD ps)) (.lst (st.map (stD T ps f))) n k (some (.str (txt w), frD (wayF T w), frD (shF ps f w))))) = .ok (.dct false (behD T T.aheads)) := rfl
      rw [iAny_e, eOp_e, k1, k2, op2_ok, bg]
      rfl
    rw [go]
    cases a : (T.longer w).all (okB T ps f n v) with
    | false => exact .inl ⟨ρ', by rw [wall, a]; rfl, rfl⟩
    | true =>
      by_cases le : k + (T.longer w).length ≤ 5000
      · refine .inr ⟨T.longer w, k + (T.longer w).length, some (.str (txt w), frD (wayF T w), frD (shF ps f w)), fun u hu => ?_, by omega, rfl, le, by rw [wall, a]; rfl, .inl (by rw [decide_eq_true le]; rfl)⟩
        unfold Tg.longer at hu
        obtain ⟨r, hr, rfl⟩ := List.mem_map.mp hu
        refine ⟨by rw [List.length_append, List.length_singleton]; omega, fun c hcu => ?_⟩
        rcases List.mem_append.mp hcu with hcu | hcu
        · exact hc c hcu
        · rw [List.mem_singleton.mp hcu]
          exact List.mem_map.mpr ⟨r, (List.mem_filter.mp hr).1, rfl⟩
      · exact .inl ⟨ρ', by rw [decide_eq_false (show ¬ k + xork T n v [w] ≤ 5000 by omega), Bool.and_false], by rw [decide_eq_false le]; rfl⟩
theorem hf_whileG {T : Tg} (h : Good T) {ps : List Par} (hp : PtOk T.codes ps) {f : Nat × Nat} (hf : Lo 62 f) {n : Nat} (hn : n ≤ 1000000000) {v : Nat × Nat} (hv : Lo 1000 v) (x2 x4 : D) : ∀ (N : Nat) (st : List (List Nat)) (k : Nat) (y : Option (D × D × D)),
    st.length + xork T n v st ≤ N → st.length ≤ k + 1 → k ≤ 5000 → (∀ w ∈ st, w.length ≤ T.long ∧ ∀ c ∈ w, c ∈ T.codes) → ∃ ρ',
      sWhile [7] (bT (eOp dNe (eVar 7) (eLst aNil))) B_holds_for_2 (hfY (.int T.long) (.dct false (behD T T.aheads)) x2 (frD v) x4 (.dct true (psD ps)) (.lst (st.map (stD T ps f))) n k y) =
        if ((st.all fun w => (xk T n v w).all (okB T ps f n v)) && decide (k + xork T n v st ≤ 5000)) = true then .nx ρ' else .rt (.bl false) ρ' := by
  have nil : ∀ (k : Nat) (y : Option (D × D × D)), k ≤ 5000 → ∃ ρ', sWhile [7] (bT (eOp dNe (eVar 7) (eLst aNil))) B_holds_for_2 (hfY (.int T.long) (.dct false (behD T T.aheads)) x2 (frD v) x4 (.dct true (psD ps)) (.lst (([] : List (List Nat)).map (stD T ps f))) n k y) =
        if ((([] : List (List Nat)).all fun w => (xk T n v w).all (okB T ps f n v)) && decide (k + xork T n v [] ≤ 5000)) = true then .nx ρ' else .rt (.bl false) ρ' := fun k y hk => by
    refine ⟨hfY (.int T.long) (.dct false (behD T T.aheads)) x2 (frD v) x4 (.dct true (psD ps)) (.lst ([].map (stD T ps f))) n k y, ?_⟩
    rw [sWhile_e, hf_cond h _ _ _ _ _ _ _ _ _ (st := []) (fun w hw => nomatch hw), atR_ok, if_pos (by rw [decide_eq_true (show k + xork T n v [] ≤ 5000 from hk)]; rfl)]
    rfl
  intro N
  induction N with
  | zero =>
    intro st k y hN _ hk _
    have e : st = [] := List.length_eq_zero_iff.mp (by omega)
    subst e
    exact nil k y hk
  | succ N ih =>
    intro st k y hN h9 hk hst
    rcases List.eq_nil_or_concat st with e | ⟨st0, w, e⟩
    · subst e
      exact nil k y hk
    · rw [List.concat_eq_append] at e
      subst e
      have hw := hst w (by simp)
      have hN' := hN
      have h9' := h9
      rw [xork_app, List.length_append, List.length_singleton] at hN'
      rw [List.length_append, List.length_singleton] at h9'
      have emp : (st0 ++ [w]).isEmpty = false := by cases st0 <;> rfl
      rw [sWhile_e, hf_cond h _ _ _ _ _ _ _ _ _ (fun u hu => (hst u hu).2), atR_ok, emp, List.all_append]
      show ∃ ρ', loopK [7] _ B_holds_for_2 (B_holds_for_2 _) = _
      rcases hf_bodyG h hp hf hn hv x2 x4 hw.1 hw.2 st0 k y (by omega) hk with ⟨ρ', b1, b2⟩ | ⟨st', k', y', b1, b2, b3, b3', b4, b5⟩
      · refine ⟨ρ', ?_⟩
        rw [b2]
        have : ((st0.all fun w => (xk T n v w).all (okB T ps f n v)) && ([w].all fun w => (xk T n v w).all (okB T ps f n v)) && decide (k + xork T n v (st0 ++ [w]) ≤ 5000)) = false := by
          rw [Bool.and_eq_false_iff] at b1
          rcases b1 with b1 | b1
          · rw [List.all_cons, b1]
            simp
          · have := of_decide_eq_false b1
            rw [xork_app, decide_eq_false (by omega), Bool.and_false]
        rw [this]
        rfl
      · obtain ⟨ρ', e⟩ := ih (st0 ++ st') k' y' (by rw [xork_app, List.length_append]; omega) (by rw [List.length_append]; omega) b3' fun u hu => by
          rcases List.mem_append.mp hu with hu | hu
          · exact hst u (List.mem_append_left _ hu)
          · exact b1 u hu
        refine ⟨ρ', ?_⟩
        have a1 : ([w].all fun w => (xk T n v w).all (okB T ps f n v)) = st'.all fun u => (xk T n v u).all (okB T ps f n v) := by
          rw [List.all_cons, b4, List.all_nil, Bool.and_true]
        have a2 : k + xork T n v (st0 ++ [w]) = k' + xork T n v (st0 ++ st') := by rw [xork_app, xork_app]; omega
        rw [a1, a2, ← List.all_append, ← e]
        rcases b5 with b5 | b5
        · rw [b5, loopK_nx]
        · rw [b5, loopK_ct]
/-- whether a thing's value holds, few enough looked at -/
def holdsG (T : Tg) (ps : List Par) (f : Nat × Nat) (n : Nat) (v : Nat × Nat) : Bool := (xk T n v []).all (okB T ps f n v) && decide ((xk T n v []).length ≤ 5000)
theorem holds_for_g {T : Tg} (h : Good T) {ps : List Par} (hp : PtOk T.codes ps) {f : Nat × Nat} (hf : Lo 62 f) {n : Nat} (hn : n ≤ 1000000000) {v : Nat × Nat} (hv : Lo 1000 v) :
    F_holds_for [.int T.long, .dct false (behD T T.aheads), .int (n : Nat), frD v, frD f, .dct true (psD ps)] = .ok (.bl (holdsG T ps f n v)) := by
  obtain ⟨ρ', e⟩ := hf_whileG h hp hf hn hv (.int (n : Nat)) (frD f) (1 + xork T n v [[]]) [[]] 0 none (by simp) (by simp) (by omega) (fun w hw => by
    rw [List.mem_singleton.mp hw]
    exact ⟨Nat.zero_le _, fun c hc => nomatch hc⟩)
  have al : ((([[]] : List (List Nat)).all fun w => (xk T n v w).all (okB T ps f n v)) && decide (0 + xork T n v [[]] ≤ 5000)) = holdsG T ps f n v := by
    unfold holdsG
    rw [List.all_cons, List.all_nil, Bool.and_true, xork_one, Nat.zero_add]
  rw [al] at e
  show outR (B_holds_for [some (.frz (.int T.long)), some (.frz (.dct false (behD T T.aheads))), some (.frz (.int (n : Nat))), some (.frz (frD v)), some (.frz (frD f)), some (.frz (.dct true (psD ps))), none, none, none, none, none, none, none, none, none, none]) = _
  rw [B_holds_for_u]
  have : sSeq (sAsg [] (eTup (aCons (eVar 2) (aCons (eC (.int 1)) aNil))) (tgN 6)) (sSeq (sOwn 7 [] (eLst (aCons (eTup (aCons (eC (.str "")) (aCons (eC (.tup [.int 0, .int 1])) (aCons (eVar 4) aNil)))) aNil))) (sSeq (sAsg [] (eC (.int 0)) (tgN 8)) (sSeq (sWhile [7] (bT (eOp dNe (eVar 7) (eLst aNil))) B_holds_for_2) (sRet [] (eC (.bl true))))))
      [some (.frz (.int T.long)), some (.frz (.dct false (behD T T.aheads))), some (.frz (.int (n : Nat))), some (.frz (frD v)), some (.frz (frD f)), some (.frz (.dct true (psD ps))), none, none, none, none, none, none, none, none, none, none] =
      seqK (sRet [] (eC (.bl true))) (if holdsG T ps f n v = true then .nx ρ' else .rt (.bl false) ρ') := by
    have es : stD T ps f [] = .tup [.str (Str.ofString ""), .tup [.int 0, .int 1], frD f] := rfl
    refine seq_to (ρ' := [some (.frz (.int T.long)), some (.frz (.dct false (behD T T.aheads))), some (.frz (.int (n : Nat))), some (.frz (frD v)), some (.frz (frD f)), some (.frz (.dct true (psD ps))), some (.frz (.tup [.int (n : Nat), .int 1])), none, none, none, none, none, none, none, none, none]) ?_ ?_
    · generalize D.dct false (behD T T.aheads) = bd0
      generalize D.dct true (psD ps) = pd
      generalize frD f = fd
      generalize frD v = vd
      simp
    refine seq_to (ρ' := [some (.frz (.int T.long)), some (.frz (.dct false (behD T T.aheads))), some (.frz (.int (n : Nat))), some (.frz (frD v)), some (.frz (frD f)), some (.frz (.dct true (psD ps))), some (.frz (.tup [.int (n : Nat), .int 1])), some (.own false (.lst ([[]].map (stD T ps f)))), none, none, none, none, none, none, none, none]) ?_ ?_
    · rw [List.map_cons, List.map_nil, es]
      generalize D.dct false (behD T T.aheads) = bd0
      generalize D.dct true (psD ps) = pd
      generalize frD f = fd
      generalize frD v = vd
      simp
    refine seq_to (ρ' := hfY (.int T.long) (.dct false (behD T T.aheads)) (.int (n : Nat)) (frD v) (frD f) (.dct true (psD ps)) (.lst ([[]].map (stD T ps f))) n 0 none) ?_ ?_
    · generalize D.lst ([[]].map (stD T ps f)) = S
      generalize D.dct false (behD T T.aheads) = bd0
      generalize D.dct true (psD ps) = pd
      generalize frD f = fd
      generalize frD v = vd
      simp [hfY, hfE, yA, yB, yC]
    rw [sSeq_e, e]
  rw [this]
  cases holdsG T ps f n v <;> rfl
/-! what is looked at: enough to know of all words -/
end Du

namespace Du
open PySem PySem.Spec PyProof.Rows L2 Dear
/-! ### shares let by, few enough looked at -/
theorem lets_loopG {T : Tg} (h : Good T) {ps : List Par} (hp : PtOk T.codes ps) {f : Nat × Nat} (hf : Lo 62 f) (x1 x2 x4 x5 : D) : ∀ (ws : List (List Nat × Nat)) (vs : List (Nat × Nat)), vs.length = ws.length → (∀ p ∈ ws, p.2 ≤ 1000000000) → (∀ v ∈ vs, Lo 1000 v) →
    ∃ ρ', forL (tgT [(tgT [(tgN 8), (tgN 9)]), (tgN 10)]) B_lets_shares_1 [8, 9, 10] (pairs (ws.map wantD) (vs.map frD)) (lsE T x1 x2 f x4 x5 ps none none none) =
      if ((ws.zip vs).all fun x => holdsG T ps f x.1.2 x.2) = true then .nx (lsE T x1 x2 f x4 x5 ps none none none) else .rt (.bl false) ρ'
  | [], [], _, _, _ => ⟨[], rfl⟩
  | [], _ :: _, e, _, _ => by simp at e
  | _ :: _, [], e, _, _ => by simp at e
  | p :: ws, v :: vs, e, hn, hv => by
    have e' : vs.length = ws.length := by simpa using e
    obtain ⟨ρ2, ih⟩ := lets_loopG h hp hf x1 x2 x4 x5 ws vs e' (fun x hx => hn x (List.mem_cons_of_mem _ hx)) fun x hx => hv x (List.mem_cons_of_mem _ hx)
    have hf1 := holds_for_g h hp hf (hn p List.mem_cons_self) (hv v List.mem_cons_self)
    rw [List.map_cons, List.map_cons, pairs, forL_cons]
    have tg : tgT [(tgT [(tgN 8), (tgN 9)]), (tgN 10)] (.tup [wantD p, frD v]) = .ok [(8, .str (txt p.1)), (9, .int (p.2 : Nat)), (10, frD v)] := by
      have : tgT [(tgN 8), (tgN 9)] (wantD p) = .ok [(8, .str (txt p.1)), (9, .int (p.2 : Nat))] := by unfold wantD; simp
      simp [this]
    rw [tg, forT_ok]
    have td3 : dIx T.d (.int 3) = .ok (.int T.long) := rfl
    have b : B_lets_shares_1 (setS (lsE T x1 x2 f x4 x5 ps none none none) [(8, .str (txt p.1)), (9, .int (p.2 : Nat)), (10, frD v)]) =
        if holdsG T ps f p.2 v = true then .nx (lsE T x1 x2 f x4 x5 ps (some (.frz (.str (txt p.1)))) (some (.frz (.int (p.2 : Nat)))) (some (.frz (frD v)))) else .rt (.bl false) (lsE T x1 x2 f x4 x5 ps (some (.frz (.str (txt p.1)))) (some (.frz (.int (p.2 : Nat)))) (some (.frz (frD v)))) := by
      rw [B_lets_shares_1_u]
      generalize holdsG T ps f p.2 v = b at *
      unfold lsE
      generalize D.dct true (psD ps) = pd at *
      generalize D.dct false (behD T T.aheads) = bd0 at *
      generalize frD f = fd at *
      generalize frD v = vd at *
      generalize T.d = td at *
      cases b <;> simp [td3, hf1]
    rw [b, List.zip_cons_cons, List.all_cons]
    cases hb : holdsG T ps f p.2 v with
    | false => exact ⟨_, rfl⟩
    | true =>
      refine ⟨ρ2, ?_⟩
      rw [if_pos rfl, forK_nx, Bool.true_and]
      exact ih
theorem lets_shares_g {T : Tg} (h : Good T) {ws : List (List Nat × Nat)} (hw : Wn ws) {f : Nat × Nat} {ps : List Par} {vs : List (Nat × Nat)} {due : Bool} (hs : ShOk T ws f ps vs due) :
    F_lets_shares [T.d, wnD ws, sharesD f ps vs] = .ok (.bl (formB T ps && (ws.zip vs).all fun x => holdsG T ps f x.1.2 x.2)) := by
  have l1 := look_e h
  have l2 := look_wants_g hw
  have n20 := hw.n20
  have as := are_shares_e h hs n20
  have bs := by_signs_e hs.pk (by have := hs.pl; omega)
  have sb := signs_behind_e h
  obtain ⟨ρ', e⟩ := lets_loopG h hs.pk hs.fl (wnD ws) (sharesD f ps vs) (.lst (ps.map partD)) (.lst (vs.map frD)) ws vs hs.vl hw.ct hs.vo
  have dl : dLen [wnD ws] = .ok (.int (ws.length : Nat)) := by
    unfold wnD
    rw [dLen_lst (by rw [List.length_map]; omega), List.length_map]
  show outR (B_lets_shares [some (.frz T.d), some (.frz (wnD ws)), some (.frz (sharesD f ps vs)), none, none, none, none, none, none, none, none]) = _
  rw [B_lets_shares_u]
  have a1 : sExpr [] (eCall F_look_at_tongue (aCons (eVar 0) aNil)) [some (.frz T.d), some (.frz (wnD ws)), some (.frz (sharesD f ps vs)), none, none, none, none, none, none, none, none] = .nx [some (.frz T.d), some (.frz (wnD ws)), some (.frz (sharesD f ps vs)), none, none, none, none, none, none, none, none] := by
    generalize T.d = td at *
    generalize wnD ws = wd at *
    generalize sharesD f ps vs = sd at *
    simp [l1]
  have a2 : sExpr [] (eCall F_look_at_wants (aCons (eVar 1) aNil)) [some (.frz T.d), some (.frz (wnD ws)), some (.frz (sharesD f ps vs)), none, none, none, none, none, none, none, none] = .nx [some (.frz T.d), some (.frz (wnD ws)), some (.frz (sharesD f ps vs)), none, none, none, none, none, none, none, none] := by
    generalize T.d = td at *
    generalize wnD ws = wd at *
    generalize sharesD f ps vs = sd at *
    simp [l2]
  have a3 : bNot (bT (eCall F_are_shares (aCons (eVar 0) (aCons (eCall dLen (aCons (eVar 1) aNil)) (aCons (eVar 2) aNil))))) (view [] [some (.frz T.d), some (.frz (wnD ws)), some (.frz (sharesD f ps vs)), none, none, none, none, none, none, none, none]) = .ok (!formB T ps) := by
    generalize T.d = td at *
    generalize wnD ws = wd at *
    generalize sharesD f ps vs = sd at *
    simp [dl, as]
  rw [seq_to a1 (o := sSeq (sExpr [] (eCall F_look_at_wants (aCons (eVar 1) aNil))) _ _) rfl, seq_to a2 (o := sSeq (sIf [] (bNot (bT (eCall F_are_shares (aCons (eVar 0) (aCons (eCall dLen (aCons (eVar 1) aNil)) (aCons (eVar 2) aNil)))))) _ _) _ _) rfl]
  rw [sSeq_e, sIf_e, a3, atR_ok]
  cases fb : formB T ps with
  | false => rfl
  | true =>
    rw [Bool.true_and]
    show outR (seqK _ (.nx [some (.frz T.d), some (.frz (wnD ws)), some (.frz (sharesD f ps vs)), none, none, none, none, none, none, none, none])) = _
    rw [seqK_nx]
    have go : ∀ R : Env → Out, sSeq (sAsg [] (eVar 2) (tgT [(tgN 3), (tgN 4), (tgN 5)])) (sSeq (sAsg [] (eCall F_parts_by_signs (aCons (eVar 4) aNil)) (tgN 6)) (sSeq (sAsg [] (eCall F_signs_behind (aCons (eVar 0) aNil)) (tgN 7)) R)) [some (.frz T.d), some (.frz (wnD ws)), some (.frz (sharesD f ps vs)), none, none, none, none, none, none, none, none] = R (lsE T (wnD ws) (sharesD f ps vs) f (.lst (ps.map partD)) (.lst (vs.map frD)) ps none none none) := by
      intro R
      have tg : tgT [(tgN 3), (tgN 4), (tgN 5)] (sharesD f ps vs) = .ok [(3, frD f), (4, .lst (ps.map partD)), (5, .lst (vs.map frD))] := by
        unfold sharesD
        simp
      refine seq_to (ρ' := [some (.frz T.d), some (.frz (wnD ws)), some (.frz (sharesD f ps vs)), some (.frz (frD f)), some (.frz (.lst (ps.map partD))), some (.frz (.lst (vs.map frD))), none, none, none, none, none]) ?_ ?_
      · generalize T.d = td at *
        generalize wnD ws = wd at *
        generalize sharesD f ps vs = sd at *
        generalize D.lst (ps.map partD) = P at *
        generalize D.lst (vs.map frD) = V at *
        generalize frD f = fd at *
        simp [tg]
      refine seq_to (ρ' := [some (.frz T.d), some (.frz (wnD ws)), some (.frz (sharesD f ps vs)), some (.frz (frD f)), some (.frz (.lst (ps.map partD))), some (.frz (.lst (vs.map frD))), some (.frz (.dct true (psD ps))), none, none, none, none]) ?_ ?_
      · generalize T.d = td at *
        generalize wnD ws = wd at *
        generalize sharesD f ps vs = sd at *
        generalize D.lst (ps.map partD) = P at *
        generalize D.lst (vs.map frD) = V at *
        generalize frD f = fd at *
        simp [bs]
      refine seq_to (ρ' := lsE T (wnD ws) (sharesD f ps vs) f (.lst (ps.map partD)) (.lst (vs.map frD)) ps none none none) ?_ rfl
      · unfold lsE
        generalize T.d = td at *
        generalize wnD ws = wd at *
        generalize sharesD f ps vs = sd at *
        generalize D.lst (ps.map partD) = P at *
        generalize D.lst (vs.map frD) = V at *
        generalize D.dct true (psD ps) = pd at *
        generalize frD f = fd at *
        simp [sb]
    rw [go, sSeq_e, for_to (ds := pairs (ws.map wantD) (vs.map frD)) (ρ' := lsE T (wnD ws) (sharesD f ps vs) f (.lst (ps.map partD)) (.lst (vs.map frD)) ps none none none) rfl rfl e]
    cases (ws.zip vs).all fun x => holdsG T ps f x.1.2 x.2 <;> rfl
end Du

namespace Du
open PySem PySem.Spec PyProof.Rows L2 Dear
/-! ### k37: the law's front -/
structure C37 (N ft dp L n : Nat) : Prop where
  hN : (N = 3 ∧ ft = 7) ∨ (N = 4 ∧ ft = 5) ∨ (N = 5 ∧ ft = 5) ∨ (N = 6 ∧ ft = 4)
  hd : dp = ft ∨ dp = ft + 1 ∨ dp + 1 = ft
  hL : L = 8 ∨ L = dp
  n0 : 1 ≤ n
  n1 : n ≤ 1000000000
def caE (s : D) (x1 x2 x3 x4 x5 : Option Slot) : Env := [some (.own true s), x1, x2, x3, x4, x5]
theorem case_e {s : D} (hs : Src s) : ∃ (s' : D) (N ft dp L n : Nat), F__law_case [s] = .ok (.tup [.int N, .int ft, .int dp, .int L, .int n], s') ∧ Src s' ∧ C37 N ft dp L n := by
  obtain ⟨k1, s1, e1, a0, a1, hs1⟩ := draw_e (m := 4) (by decide) (by decide) hs
  obtain ⟨N, ft, hN, eN, i1⟩ : ∃ N ft : Nat, ((N = 3 ∧ ft = 7) ∨ (N = 4 ∧ ft = 5) ∨ (N = 5 ∧ ft = 5) ∨ (N = 6 ∧ ft = 4)) ∧ 3 + k1 = (N : Int) ∧ atI [D.int 0, .int 0, .int 0, .int 7, .int 5, .int 5, .int 4] (N : Int) = some (.int (ft : Nat)) := by
    rcases (by omega : k1 = 0 ∨ k1 = 1 ∨ k1 = 2 ∨ k1 = 3) with rfl | rfl | rfl | rfl
    · exact ⟨3, 7, .inl ⟨rfl, rfl⟩, rfl, rfl⟩
    · exact ⟨4, 5, .inr (.inl ⟨rfl, rfl⟩), rfl, rfl⟩
    · exact ⟨5, 5, .inr (.inr (.inl ⟨rfl, rfl⟩)), rfl, rfl⟩
    · exact ⟨6, 4, .inr (.inr (.inr ⟨rfl, rfl⟩)), rfl, rfl⟩
  obtain ⟨k2, s2, e2, b0, b1, hs2⟩ := draw_e (m := 4) (by decide) (by decide) hs1
  obtain ⟨z, dp, hd, ez, ed⟩ : ∃ (z : Int) (dp : Nat), (dp = ft ∨ dp = ft + 1 ∨ dp + 1 = ft) ∧ atI [D.int 0, .int 0, .int 1, .int (-1)] k2 = some (.int z) ∧ (ft : Int) + z = dp := by
    rcases (by omega : k2 = 0 ∨ k2 = 1 ∨ k2 = 2 ∨ k2 = 3) with rfl | rfl | rfl | rfl
    · exact ⟨0, ft, .inl rfl, rfl, by omega⟩
    · exact ⟨0, ft, .inl rfl, rfl, by omega⟩
    · exact ⟨1, ft + 1, .inr (.inl rfl), rfl, by omega⟩
    · exact ⟨-1, ft - 1, .inr (.inr (by omega)), rfl, by omega⟩
  obtain ⟨k3, s3, e3, c0, c1, hs3⟩ := draw_e (m := 2) (by decide) (by decide) hs2
  obtain ⟨y, L, hL, ey, eL⟩ : ∃ (y : Int) (L : Nat), (L = 8 ∨ L = dp) ∧ atI [D.int 8, .int (dp : Nat)] k3 = some (.int y) ∧ (if y > (dp : Int) then y else (dp : Int)) = L := by
    rcases (by omega : k3 = 0 ∨ k3 = 1) with rfl | rfl
    · refine ⟨8, 8, .inl rfl, rfl, ?_⟩
      by_cases g : (8 : Int) > (dp : Int)
      · rw [if_pos g]
        rfl
      · rw [if_neg g]
        omega
    · exact ⟨dp, dp, .inr rfl, rfl, if_neg (by omega)⟩
  obtain ⟨k4, s4, e4, g0, g1, hs4⟩ := draw_e (m := 2) (by decide) (by decide) hs3
  obtain ⟨m, hm, em⟩ : ∃ m : Nat, (1 ≤ m ∧ m ≤ 1000000000) ∧ atI [D.int 9, .int 1000000000] k4 = some (.int (m : Nat)) := by
    rcases (by omega : k4 = 0 ∨ k4 = 1) with rfl | rfl
    · exact ⟨9, by omega, rfl⟩
    · exact ⟨1000000000, by omega, rfl⟩
  obtain ⟨k5, s5, e5, j0, j1, hs5⟩ := draw_e (m := (m : Int)) (by omega) (by omega) hs4
  obtain ⟨n, rfl⟩ : ∃ n : Nat, k5 = n := ⟨k5.toNat, by omega⟩
  refine ⟨s5, N, ft, dp, L, n + 1, ?_, hs5, hN, hd, hL, by omega, by omega⟩
  show outIO 0 (B__law_case (caE s none none none none none)) = _
  have : B__law_case (caE s none none none none none) = .rt (.tup [.int N, .int ft, .int dp, .int L, .int ((n + 1 : Nat) : Int)]) (caE s5 (some (.frz (.int N))) (some (.frz (.int ft))) (some (.frz (.int dp))) (some (.frz (.int L))) (some (.frz (.int ((n + 1 : Nat) : Int))))) := by
    rw [B__law_case_u]
    refine seq_to (ρ' := caE s1 (some (.frz (.int N))) none none none none) (by simp [caE, e1, eN]) ?_
    refine seq_to (ρ' := caE s1 (some (.frz (.int N))) (some (.frz (.int ft))) none none none) (by simp [caE, i1]) ?_
    refine seq_to (ρ' := caE s2 (some (.frz (.int N))) (some (.frz (.int ft))) (some (.frz (.int dp))) none none) (by simp [caE, e2, ez, ed]) ?_
    refine seq_to (ρ' := caE s3 (some (.frz (.int N))) (some (.frz (.int ft))) (some (.frz (.int dp))) (some (.frz (.int L))) none) (by simp [caE, e3, ey, eL]) ?_
    refine seq_to (ρ' := caE s5 (some (.frz (.int N))) (some (.frz (.int ft))) (some (.frz (.int dp))) (some (.frz (.int L))) (some (.frz (.int ((n + 1 : Nat) : Int))))) (by simp [caE, e4, em, e5, Int.add_comm]) ?_
    simp [caE]
  rw [this]
  rfl
def fe6 : List Nat := [102, 101, 100, 99, 98, 97]
def cs37 (N : Nat) : List Nat := fe6.take N
theorem fe6_e : (Str.ofString "fedcba" : Str) = txt fe6 := rfl
def tg37E (s : D) (N L : Nat) (rows : List (Nat × D × D)) (x4 : Option Slot) : Env := [some (.own true s), some (.frz (.int N)), some (.frz (.int L)), some (.own false (.lst (rows.map rowD))), x4]
def one1 : D := .tup [.int 1, .int 1]
/-- rows of price one -/
structure R37 (rows : List (Nat × D × D)) : Prop where
  pr : ∀ r ∈ rows, r.2.1 = one1
  la : ∀ r ∈ rows, r.2.2 = .non ∨ r.2.2 = one1 ∨ r.2.2 = .tup [.int 2, .int 1]
theorem fe6_at {k : Nat} (h : k < 6) : dIx (.str (Str.ofString "fedcba")) (.int (k : Nat)) = .ok (.str (txt [102 - k])) := by
  rcases (by omega : k = 0 ∨ k = 1 ∨ k = 2 ∨ k = 3 ∨ k = 4 ∨ k = 5) with rfl | rfl | rfl | rfl | rfl | rfl <;> rfl
theorem cs37_succ {k : Nat} (h : k < 6) : cs37 (k + 1) = cs37 k ++ [102 - k] := by
  rcases (by omega : k = 0 ∨ k = 1 ∨ k = 2 ∨ k = 3 ∨ k = 4 ∨ k = 5) with rfl | rfl | rfl | rfl | rfl | rfl <;> rfl
theorem tg37_loop (N L : Nat) (hN : N ≤ 6) : ∀ (m k : Nat) (s : D) (rows : List (Nat × D × D)), k + m = N → Src s → rows.map (·.1) = cs37 k → R37 rows → ∃ (s' : D) (rows' : List (Nat × D × D)), Src s' ∧ rows'.map (·.1) = cs37 N ∧ R37 rows' ∧
    forL (tgN 4) B__law_tongue_1 [4] ((List.range' k m).map fun i => D.int (i : Nat)) (tg37E s N L rows none) = .nx (tg37E s' N L rows' none)
  | 0, k, s, rows, e, hs, h1, h2 => ⟨s, rows, hs, by rw [h1, show k = N by omega], h2, rfl⟩
  | m + 1, k, s, rows, e, hs, h1, h2 => by
    obtain ⟨j, s1, e1, a0, a1, hs1⟩ := draw_e (m := 3) (by decide) (by decide) hs
    obtain ⟨la, hla, ela⟩ : ∃ la : D, (la = .non ∨ la = one1 ∨ la = .tup [.int 2, .int 1]) ∧ atI [one1, .non, .tup [.int 2, .int 1]] j = some la := by
      rcases (by omega : j = 0 ∨ j = 1 ∨ j = 2) with rfl | rfl | rfl
      · exact ⟨_, .inr (.inl rfl), rfl⟩
      · exact ⟨_, .inl rfl, rfl⟩
      · exact ⟨_, .inr (.inr rfl), rfl⟩
    obtain ⟨s', rows', hs', h3, h4, e2⟩ := tg37_loop N L hN m (k + 1) s1 (rows ++ [(102 - k, one1, la)]) (by omega) hs1 (by rw [List.map_append, h1, cs37_succ (by omega)]; rfl) ⟨fun r hr => by
      rcases List.mem_append.mp hr with hr | hr
      · exact h2.pr r hr
      · rw [List.mem_singleton.mp hr], fun r hr => by
      rcases List.mem_append.mp hr with hr | hr
      · exact h2.la r hr
      · rw [List.mem_singleton.mp hr]
        exact hla⟩
    refine ⟨s', rows', hs', h3, h4, ?_⟩
    have hl : rows.length ≤ 6 := by
      have := congrArg List.length h1
      rw [List.length_map] at this
      rw [this]
      unfold cs37 fe6
      rw [List.length_take]
      exact Nat.min_le_right _ _
    have ix := fe6_at (k := k) (by omega)
    rw [List.range'_succ, List.map_cons, forL_cons, tgN_e, forT_ok]
    have b : B__law_tongue_1 (setS (tg37E s N L rows none) [(4, .int (k : Nat))]) = .nx (tg37E s1 N L (rows ++ [(102 - k, one1, la)]) (some (.frz (.int (k : Nat))))) := by
      rw [B__law_tongue_1_u]
      have mk : (rows ++ [(102 - k, one1, la)]).map rowD = rows.map rowD ++ [.tup [.str (txt [102 - k]), .tup [.int 1, .int 1], la]] := by rw [List.map_append]; rfl
      unfold tg37E
      rw [mk]
      unfold one1 at ela
      simp [e1, ix, ela, show rows.length ≤ 16777215 by omega]
    rw [b, forK_nx]
    exact e2
end Du

namespace Du
open PySem PySem.Spec PyProof.Rows L2 Dear
/-! ### k37: the tongue, the parts -/
structure U37 (T : Tg) (N L : Nat) : Prop where
  fs : T.firsts = []
  ps : T.pairs = []
  lg : T.long = L
  cs : T.codes = cs37 N
  rw : R37 T.signs
  hd : ∃ rest, T.signs = (102, one1, one1) :: rest
theorem cs37_mem {N c : Nat} (h : c ∈ cs37 N) : 97 ≤ c ∧ c ≤ 102 := by
  have := List.mem_of_mem_take h
  unfold fe6 at this
  simp only [List.mem_cons, List.not_mem_nil, or_false] at this
  omega
theorem cs37_nd (N : Nat) : (cs37 N).Nodup := (show fe6.Nodup by decide).sublist (List.take_sublist _ _)
theorem cs37_len {N : Nat} (h : N ≤ 6) : (cs37 N).length = N := by
  unfold cs37
  rw [List.length_take]
  exact Nat.min_eq_left h
theorem price_one : Price one1 := ⟨1, 1, rfl, by decide, by decide, by decide, by decide, by decide⟩
theorem price_two : Price (.tup [.int 2, .int 1]) := ⟨2, 1, rfl, by decide, by decide, by decide, by decide, by decide⟩
theorem U37.good {T : Tg} {N L : Nat} (h : U37 T N L) (h3 : 3 ≤ N) (h6 : N ≤ 6) (l0 : 1 ≤ L) (l1 : L ≤ 8) : Good T := by
  have sl : T.signs.length = N := by
    have := congrArg List.length h.cs
    unfold Tg.codes at this
    rw [List.length_map, cs37_len h6] at this
    exact this
  refine ⟨by omega, by omega, fun r hr => ?_, ?_, ?_, ?_, ?_, ?_, by rw [h.fs]; exact Nat.zero_le _, by rw [h.ps]; exact Nat.zero_le _, by rw [h.lg]; exact l0, by rw [h.lg]; exact l1⟩
  · have m : r.1 ∈ cs37 N := by rw [← h.cs]; exact List.mem_map.mpr ⟨r, hr, rfl⟩
    have b := cs37_mem m
    refine ⟨b.1, by omega, by rw [h.rw.pr r hr]; exact price_one, ?_⟩
    rcases h.rw.la r hr with e | e | e
    · exact .inl e
    · exact .inr (by rw [e]; exact price_one)
    · exact .inr (by rw [e]; exact price_two)
  · show T.codes.Nodup
    rw [h.cs]
    exact cs37_nd N
  · rw [h.fs]
    exact fun v hv => nomatch hv
  · rw [h.fs]
    exact List.nodup_nil
  · rw [h.ps]
    exact fun v hv => nomatch hv
  · rw [h.ps]
    exact List.nodup_nil
theorem tongue37_u (s a b : D) : F__law_tongue [s, a, b] = outIO 0 (B__law_tongue [some (.own true s), some (.frz a), some (.frz b), none, none]) := by rfl
theorem tongue37_e {s : D} (hs : Src s) {N L : Nat} (h3 : 3 ≤ N) (h6 : N ≤ 6) : ∃ (s' : D) (T : Tg), F__law_tongue [s, .int N, .int L] = .ok (T.d, s') ∧ Src s' ∧ U37 T N L := by
  obtain ⟨s', rows, hs', h1, h2, e⟩ := tg37_loop N L h6 N 0 s [] (by omega) hs rfl ⟨(fun _ h => nomatch h), (fun _ h => nomatch h)⟩
  have hl : rows.length = N := by
    have := congrArg List.length h1
    rw [List.length_map, cs37_len h6] at this
    exact this
  obtain ⟨r0, rest, rfl⟩ : ∃ r0 rest, rows = r0 :: rest := by
    cases rows with
    | nil =>
      rw [List.length_nil] at hl
      omega
    | cons a b => exact ⟨a, b, rfl⟩
  have c0 : cs37 N = 102 :: (cs37 N).tail := by
    obtain ⟨m, rfl⟩ : ∃ m, N = m + 1 := ⟨N - 1, by omega⟩
    rfl
  have c1 : ((102, one1, one1) :: rest).map (fun r : Nat × D × D => r.1) = cs37 N := by
    rw [List.map_cons] at h1
    rw [c0] at h1
    injection h1 with ha hb
    rw [List.map_cons, hb]
    exact c0.symm
  refine ⟨s', ⟨(102, one1, one1) :: rest, [], [], L⟩, ?_, hs', rfl, rfl, rfl, c1, ⟨fun r hr => ?_, fun r hr => ?_⟩, rest, rfl⟩
  · rw [tongue37_u]
    have rg := rng_e N (by omega)
    have : B__law_tongue [some (.own true s), some (.frz (.int N)), some (.frz (.int L)), none, none] = .rt (Tg.d ⟨(102, one1, one1) :: rest, [], [], L⟩) [some (.own true s'), some (.frz (.int N)), some (.frz (.int L)), some (.frz (.lst (((102, one1, one1) :: rest).map rowD))), none] := by
      rw [B__law_tongue_u]
      refine seq_to (ρ' := tg37E s N L [] none) (by simp [tg37E]) ?_
      refine seq_to (for_to (ds := (List.range' 0 N).map fun i => D.int (i : Nat)) (ρ' := tg37E s N L [] none) ?_ (by simp [tg37E]) e) ?_
      · have v : aCons (eVar 1) aNil (view [] (tg37E s N L [] none)) = .ok [.int N] := rfl
        rw [iRange_e, v, bd_ok, rg]
      refine seq_to (ρ' := tg37E s' N L ((102, one1, one1) :: rest) none) ?_ ?_
      · have e1 : (.str (Str.ofString "f") : D) = .str (txt [102]) := rfl
        simp [tg37E, rowD, one1, e1]
      · simp [tg37E, Tg.d]
    rw [this]
    rfl
  · rcases List.mem_cons.mp hr with rfl | hr
    · rfl
    · exact h2.pr r (List.mem_cons_of_mem _ hr)
  · rcases List.mem_cons.mp hr with rfl | hr
    · exact .inr (.inl rfl)
    · exact h2.la r (List.mem_cons_of_mem _ hr)
def ps37 (N : Nat) (as : List (List Nat)) : List Par := as.flatMap fun a => (cs37 N).map fun c => (a, c, 1, N)
def al37 (N : Nat) : List (List Nat) := [] :: (cs37 N).map fun c => [c]
theorem parts37_comp {N : Nat} (h : N ≤ 6) (P : D) (a : List Nat) : eComp [3] (iAny (eSl (eC (.str (Str.ofString "fedcba"))) pNo (pYes (eVar 0)))) (tgN 3) bYes (eTup (aCons (eVar 2) (aCons (eVar 3) (aCons (eTup (aCons (eC (.int 1)) (aCons (eVar 0) aNil))) aNil)))) [some (.int N), some P, some (.str (txt a)), none] = .ok (.lst (((cs37 N).map fun c => (a, c, 1, N)).map partD)) := by
  rw [List.map_map]
  refine eComp_all (F := sg) _ ?_ (by rw [cs37_len h]; omega) fun c hc => ⟨_, rfl, by simp, ?_⟩
  · have d := dSl_take (w := fe6) (j := N) (by decide)
    rw [← fe6_e] at d
    have : eSl (eC (.str (Str.ofString "fedcba"))) pNo (pYes (eVar 0)) [some (.int N), some P, some (.str (txt a)), none] = .ok (.str (txt (cs37 N))) := d
    rw [iAny_e, this]
    show Res.ok (signs (txt (cs37 N))) = _
    rw [signs_txt]
  · simp [sg, frD, partD]
theorem parts37_loop {N : Nat} (h : N ≤ 6) : ∀ (l done : List (List Nat)), done.length + l.length ≤ 7 →
    forL (tgN 2) B__law_parts_1 [2, 3] (l.map fun v => .str (txt v)) [some (.frz (.int N)), some (.frz (.lst ((ps37 N done).map partD))), none, none] = .nx [some (.frz (.int N)), some (.frz (.lst ((ps37 N (done ++ l)).map partD))), none, none]
  | [], done, _ => by rw [List.append_nil]; rfl
  | a :: l, done, hl => by
    rw [List.length_cons] at hl
    have ih := parts37_loop h l (done ++ [a]) (by rw [List.length_append, List.length_singleton]; omega)
    have dl : (ps37 N done).length = done.length * N := by
      unfold ps37
      rw [List.length_flatMap]
      have : (done.map fun a => ((cs37 N).map fun c => (a, c, 1, N)).length) = done.map fun _ => N := List.map_congr_left fun x _ => by rw [List.length_map, cs37_len h]
      rw [this, List.map_const', List.sum_replicate_nat]
    have bn : done.length * N ≤ 7 * 6 := Nat.mul_le_mul (by omega) h
    rw [List.map_cons, forL_cons, tgN_e, forT_ok]
    have ap : (ps37 N done).map partD ++ ((cs37 N).map fun c => (a, c, 1, N)).map partD = (ps37 N (done ++ [a])).map partD := by
      unfold ps37
      rw [List.flatMap_append, List.map_append, List.flatMap_cons, List.flatMap_nil, List.append_nil]
    have b : B__law_parts_1 (setS [some (.frz (.int N)), some (.frz (.lst ((ps37 N done).map partD))), none, none] [(2, .str (txt a))]) = .nx [some (.frz (.int N)), some (.frz (.lst ((ps37 N (done ++ [a])).map partD))), some (.frz (.str (txt a))), none] := by
      have c := parts37_comp h (.lst ((ps37 N done).map partD)) a
      rw [B__law_parts_1_u]
      show sAsg [] _ _ [some (.frz (.int N)), some (.frz (.lst ((ps37 N done).map partD))), some (.frz (.str (txt a))), none] = _
      have v : view [] [some (.frz (.int N)), some (.frz (.lst ((ps37 N done).map partD))), some (.frz (.str (txt a))), none] = [some (.int N), some (.lst ((ps37 N done).map partD)), some (.str (txt a)), none] := rfl
      rw [asg_to (d := .lst ((ps37 N (done ++ [a])).map partD)) (by
        rw [v, eOp_e, c]
        show op2 dAdd (.ok (.lst ((ps37 N done).map partD))) _ = _
        rw [op2_ok, dAdd_lst (by rw [List.length_map, List.length_map, List.length_map, cs37_len h, dl]; omega), ap])]
      rfl
    rw [b, forK_nx]
    show forL _ _ _ _ [some (.frz (.int N)), some (.frz (.lst ((ps37 N (done ++ [a])).map partD))), none, none] = _
    rw [ih, List.append_assoc]
    rfl
theorem parts37_e {N : Nat} (h : N ≤ 6) : F__law_parts [.int N] = .ok (.lst ((ps37 N (al37 N)).map partD)) := by
  have e := parts37_loop h (al37 N) [] (by unfold al37; rw [List.length_cons, List.length_map, cs37_len h, List.length_nil]; omega)
  rw [List.nil_append] at e
  show outR (B__law_parts [some (.frz (.int N)), none, none, none]) = _
  have : B__law_parts [some (.frz (.int N)), none, none, none] = .rt (.lst ((ps37 N (al37 N)).map partD)) [some (.frz (.int N)), some (.frz (.lst ((ps37 N (al37 N)).map partD))), none, none] := by
    rw [B__law_parts_u]
    refine seq_to (ρ' := [some (.frz (.int N)), some (.frz (.lst ((ps37 N []).map partD))), none, none]) (by simp [ps37]) ?_
    refine seq_to (for_to (ds := (al37 N).map fun v => .str (txt v)) (ρ' := [some (.frz (.int N)), some (.frz (.lst ((ps37 N []).map partD))), none, none]) ?_ rfl e) ?_
    · have v : view [] [some (.frz (.int N)), some (.frz (.lst ((ps37 N []).map partD))), none, none] = [some (.int N), some (.lst ((ps37 N []).map partD)), none, none] := rfl
      have c : eComp [3] (iAny (eSl (eC (.str (Str.ofString "fedcba"))) pNo (pYes (eVar 0)))) (tgN 3) bYes (eVar 3) [some (.int N), some (.lst ((ps37 N []).map partD)), none, none] = .ok (.lst ((cs37 N).map sg)) := by
        refine eComp_all (F := sg) _ ?_ (by rw [cs37_len h]; omega) fun c hc => ⟨_, rfl, by simp, by simp⟩
        have d := dSl_take (w := fe6) (j := N) (by decide)
        rw [← fe6_e] at d
        have : eSl (eC (.str (Str.ofString "fedcba"))) pNo (pYes (eVar 0)) [some (.int N), some (.lst ((ps37 N []).map partD)), none, none] = .ok (.str (txt (cs37 N))) := d
        rw [iAny_e, this]
        show Res.ok (signs (txt (cs37 N))) = _
        rw [signs_txt]
      rw [v, iAny_e, eOp_e, c]
      show bd itemsC (op2 dAdd (.ok (.lst [.str (Str.ofString "")])) (.ok (.lst ((cs37 N).map sg)))) = _
      rw [op2_ok, dAdd_lst (by rw [List.length_map, cs37_len h, List.length_singleton]; omega)]
      unfold al37
      rw [List.map_cons, List.map_map]
      rfl
    · generalize D.lst ((ps37 N (al37 N)).map partD) = R
      simp
  rw [this]
  rfl
end Du

namespace Du
open PySem PySem.Spec PyProof.Rows L2 Dear
/-! ### k37: what is looked at -/
structure Pu (N : Nat) (ps : List Par) : Prop where
  mem : ∀ a ∈ al37 N, ∀ c ∈ cs37 N, (a, c, 1, N) ∈ ps
  all : ∀ p ∈ ps, p.1 ∈ al37 N ∧ p.2.1 ∈ cs37 N ∧ p.2.2 = (1, N)
  nd : (ps.map fun p => (p.1, p.2.1)).Nodup
  len : ps.length ≤ 42
  form : ∀ a ∈ al37 N, overB ps a = false
theorem pu_e {N : Nat} (h : N = 3 ∨ N = 4 ∨ N = 5 ∨ N = 6) : Pu N (ps37 N (al37 N)) := by
  rcases h with rfl | rfl | rfl | rfl <;> exact ⟨by decide +kernel, by decide +kernel, by decide +kernel, by decide +kernel, by decide +kernel⟩
theorem pu_r {N : Nat} (h : N = 3 ∨ N = 4 ∨ N = 5 ∨ N = 6) : Pu N (ps37 N (al37 N)).reverse := by
  rcases h with rfl | rfl | rfl | rfl <;> exact ⟨by decide +kernel, by decide +kernel, by decide +kernel, by decide +kernel, by decide +kernel⟩
theorem lo_1N {N : Nat} (h3 : 3 ≤ N) (h6 : N ≤ 6) : Lo 10 (1, N) := ⟨by show 0 < N; omega, Nat.gcd_one_right _, by show 1 < 2 ^ 10; decide, by show N < 2 ^ 10; omega⟩
theorem Pu.ok {N : Nat} {ps : List Par} (h : Pu N ps) (h3 : 3 ≤ N) (h6 : N ≤ 6) : PtOk (cs37 N) ps := by
  refine ⟨fun p hp => ?_, fun p hp => (h.all p hp).2.1, fun p hp => by rw [(h.all p hp).2.2]; exact lo_1N h3 h6, h.nd⟩
  have := (h.all p hp).1
  unfold al37 at this
  rcases List.mem_cons.mp this with e | m
  · exact .inl e
  · obtain ⟨c, hc, e⟩ := List.mem_map.mp m
    exact .inr ⟨c, hc, e.symm⟩
theorem Pu.get {N : Nat} {ps : List Par} (h : Pu N ps) {a : List Nat} {c : Nat} (ha : a ∈ al37 N) (hc : c ∈ cs37 N) : getPt ps a c = (1, N) := by
  unfold getPt
  cases e : ps.find? fun p => decide (p.1 = a ∧ p.2.1 = c) with
  | none =>
    have := List.find?_eq_none.mp e _ (h.mem a ha c hc)
    simp at this
  | some p => exact (h.all p (List.mem_of_find?_eq_some e)).2.2
theorem al_sing {N c : Nat} (hc : c ∈ cs37 N) : [c] ∈ al37 N := List.mem_cons_of_mem _ (List.mem_map.mpr ⟨c, hc, rfl⟩)
theorem q_inv {N : Nat} (h : 0 < N) : qF (1, N) * ((N : Nat) : Rat) = 1 := by
  unfold qF
  rw [Rat.mkRat_eq_div]
  have : ((N : Int) : Rat) ≠ 0 := by
    have : (N : Int) ≠ 0 := by omega
    exact_mod_cast this
  rw [show ((N : Nat) : Rat) = ((N : Int) : Rat) from rfl]
  exact Rat.div_mul_cancel this
theorem sh37 {N : Nat} {ps : List Par} (h : Pu N ps) (h3 : 3 ≤ N) : ∀ (w : List Nat) (f : Nat × Nat) (a : List Nat), 0 < f.2 → a ∈ al37 N → (∀ c ∈ w, c ∈ cs37 N) → qF (shG ps f a w) * ((N ^ w.length : Nat) : Rat) = qF f
  | [], f, a, _, _, _ => by
    show qF f * ((N ^ 0 : Nat) : Rat) = qF f
    rw [Nat.pow_zero]
    exact Rat.mul_one _
  | c :: w, f, a, hf, ha, hw => by
    have hc := hw c List.mem_cons_self
    have g := h.get ha hc
    have p1 : 0 < ((1, N) : Nat × Nat).2 := by show 0 < N; omega
    have ih := sh37 h h3 w (mulF f (1, N)) [c] (mulF_low hf p1).pos (al_sing hc) fun x hx => hw x (List.mem_cons_of_mem _ hx)
    show qF (shG ps (mulF f (getPt ps a c)) [c] w) * _ = _
    rw [g, List.length_cons, Nat.pow_succ, Rat.natCast_mul, ← Rat.mul_assoc, ih, qF_mul hf p1, Rat.mul_assoc, q_inv (by omega), Rat.mul_one]
theorem pr37 {T : Tg} {N L : Nat} (u : U37 T N L) (h : Good T) {c : Nat} (hc : c ∈ T.codes) : T.pr c = (1, 1) := by
  obtain ⟨_, _, r, hr, _, e⟩ := pr_e h hc
  rw [u.rw.pr r hr] at e
  generalize T.pr c = f at *
  unfold frD one1 at e
  obtain ⟨x, y⟩ := f
  simp at e
  rw [Prod.mk.injEq]
  omega
theorem add11 (k : Nat) : addF (k, 1) (1, 1) = (k + 1, 1) := by
  unfold addF lowF
  simp
theorem way37 {T : Tg} {N L : Nat} (u : U37 T N L) (h : Good T) {w : List Nat} (hw : ∀ c ∈ w, c ∈ T.codes) : wayF T w = (w.length, 1) := by
  have e : w.map T.pr = w.map fun _ => (1, 1) := List.map_congr_left fun c hc => pr37 u h (hw c hc)
  have key : ∀ (l : List Nat) (k : Nat), (l.map fun _ => ((1, 1) : Nat × Nat)).foldl addF (k, 1) = (k + l.length, 1) := by
    intro l
    induction l with
    | nil => exact fun k => rfl
    | cons a l ih =>
      intro k
      rw [List.map_cons, List.foldl_cons, add11, ih, List.length_cons, Nat.add_assoc, Nat.add_comm 1]
  unfold wayF sumF
  rw [e, key, Nat.zero_add]
theorem mul1 (n k : Nat) : mulF (n, 1) (k, 1) = (n * k, 1) := by
  unfold mulF lowF
  simp
theorem cont37 {T : Tg} {N L : Nat} (u : U37 T N L) (h : Good T) (n : Nat) (v : Nat × Nat) {w : List Nat} (hw : ∀ c ∈ w, c ∈ T.codes) : contB T n v w = decide (n * w.length * v.2 < v.1) := by
  unfold contB
  rw [way37 u h hw, mul1, Nat.mul_one]
theorem long37 {T : Tg} {N L : Nat} (u : U37 T N L) (w : List Nat) : T.longer w = T.codes.map fun c => w ++ [c] := by
  have : (T.signs.filter fun r => T.comes (lastL w) r.1) = T.signs := List.filter_eq_self.mpr fun r _ => by
    unfold Tg.comes
    rw [u.fs, u.ps]
    split <;> simp
  unfold Tg.longer Tg.codes
  rw [this, List.map_map]
  rfl
/-- how many texts up to m signs longer, and up to d -/
def gN (N : Nat) : Nat → Nat → Nat
  | 0, _ => 0
  | _ + 1, 0 => 0
  | m + 1, d + 1 => N * (1 + gN N m d)
theorem expl37_len {T : Tg} {N L : Nat} (u : U37 T N L) (h6 : N ≤ 6) {n : Nat} {v : Nat × Nat} {Dp : Nat} (hc : ∀ w : List Nat, (∀ c ∈ w, c ∈ T.codes) → contB T n v w = decide (w.length < Dp)) : ∀ (m : Nat) (w : List Nat), (∀ c ∈ w, c ∈ T.codes) → (T.expl n v m w).length = gN N m (Dp - w.length)
  | 0, w, _ => rfl
  | m + 1, w, hw => by
    show (if contB T n v w = true then (T.longer w).flatMap fun x => x :: T.expl n v m x else []).length = _
    rw [hc w hw]
    by_cases hd : w.length < Dp
    · obtain ⟨d, e⟩ : ∃ d, Dp - w.length = d + 1 := ⟨Dp - w.length - 1, by omega⟩
      have tl : T.codes.length = N := by rw [u.cs, cs37_len h6]
      rw [decide_eq_true hd, if_pos rfl, long37 u, e, List.length_flatMap, List.map_map]
      have : (T.codes.map ((fun x => (x :: T.expl n v m x).length) ∘ fun c => w ++ [c])) = T.codes.map fun _ => 1 + gN N m d := List.map_congr_left fun c hcc => by
        show ((w ++ [c]) :: T.expl n v m (w ++ [c])).length = _
        have ih := expl37_len u h6 hc m (w ++ [c]) fun x hx => by
          rcases List.mem_append.mp hx with hx | hx
          · exact hw x hx
          · rw [List.mem_singleton.mp hx]
            exact hcc
        rw [List.length_cons, ih, List.length_append, List.length_singleton, show Dp - (w.length + 1) = d by omega, Nat.add_comm]
      rw [this, List.map_const', List.sum_replicate_nat, tl]
      rfl
    · rw [decide_eq_false hd, show Dp - w.length = 0 by omega]
      rfl
theorem expl37_mem {T : Tg} {N L : Nat} (u : U37 T N L) {n : Nat} {v : Nat × Nat} {Dp : Nat} (hc : ∀ w : List Nat, (∀ c ∈ w, c ∈ T.codes) → contB T n v w = decide (w.length < Dp)) : ∀ (m : Nat) (w x : List Nat), (∀ c ∈ w, c ∈ T.codes) → (∀ c ∈ x, c ∈ T.codes) → x ≠ [] → x.length ≤ m → w.length + x.length ≤ Dp → w ++ x ∈ T.expl n v m w
  | 0, w, x, _, _, hx, hl, _ => absurd (List.length_eq_zero_iff.mp (by omega)) hx
  | m + 1, w, [], _, _, hx, _, _ => absurd rfl hx
  | m + 1, w, c :: y, hw, hy, _, hl, hd => by
    rw [List.length_cons] at hl hd
    have hcc := hy c List.mem_cons_self
    show _ ∈ (if contB T n v w = true then (T.longer w).flatMap fun x => x :: T.expl n v m x else [])
    rw [hc w hw, decide_eq_true (show w.length < Dp by omega), if_pos rfl, long37 u]
    refine List.mem_flatMap.mpr ⟨w ++ [c], List.mem_map.mpr ⟨c, hcc, rfl⟩, ?_⟩
    have e : w ++ c :: y = w ++ [c] ++ y := by simp
    by_cases y0 : y = []
    · subst y0
      exact List.mem_cons_self
    · rw [e]
      refine List.mem_cons_of_mem _ (expl37_mem u hc m (w ++ [c]) y (fun z hz => ?_) (fun z hz => hy z (List.mem_cons_of_mem _ hz)) y0 (by omega) (by rw [List.length_append, List.length_singleton]; omega))
      rcases List.mem_append.mp hz with hz | hz
      · exact hw z hz
      · rw [List.mem_singleton.mp hz]
        exact hcc
theorem expl_sub {T : Tg} {n : Nat} {v : Nat × Nat} : ∀ (m : Nat) (w u : List Nat), u ∈ T.expl n v m w → u ∈ T.below m w
  | 0, _, _, h => nomatch h
  | m + 1, w, u, h => by
    have h' : u ∈ (if contB T n v w = true then (T.longer w).flatMap fun x => x :: T.expl n v m x else []) := h
    split at h'
    · obtain ⟨x, hx, hu⟩ := List.mem_flatMap.mp h'
      refine List.mem_flatMap.mpr ⟨x, hx, ?_⟩
      rcases List.mem_cons.mp hu with rfl | hu
      · exact List.mem_cons_self
      · exact List.mem_cons_of_mem _ (expl_sub m x u hu)
    · cases h'
end Du

namespace Du
open PySem PySem.Spec PyProof.Rows L2 Dear
/-! ### k37: whether the values hold -/
theorem q_nat (k : Nat) : qF (k, 1) = ((k : Nat) : Rat) := by
  unfold qF
  rw [Rat.mkRat_one]
  rfl
theorem la37 {T : Tg} {N L : Nat} (u : U37 T N L) (h : Good T) {c : Nat} (hc : T.ends c = true) : T.la c = (1, 1) ∨ T.la c = (2, 1) := by
  obtain ⟨_, _, r, hr, _, e⟩ := la_e h hc
  generalize T.la c = f at *
  obtain ⟨x, y⟩ := f
  rcases u.rw.la r hr with z | z | z
  · rw [z] at e
    cases e
  · rw [z] at e
    unfold frD one1 at e
    simp at e
    exact .inl (by rw [Prod.mk.injEq]; omega)
  · rw [z] at e
    unfold frD at e
    simp at e
    exact .inr (by rw [Prod.mk.injEq]; omega)
/-- what a word costs, by its worth -/
theorem cost37 {T : Tg} {N L : Nat} (u : U37 T N L) (h : Good T) (h3 : 3 ≤ N) {ps : List Par} (pu : Pu N ps) (hp : PtOk T.codes ps) {W : Nat} (hf : Lo 62 (W, 1)) {n : Nat} (hn : n ≤ 1000000000) {x : List Nat} {c : Nat} (hx : ∀ d ∈ x, d ∈ T.codes) (hc : T.ends c = true) (hcc : c ∈ T.codes) :
    Low (costW T ps (W, 1) n (x ++ [c])) ∧ ∃ (s : Rat) (l : Nat), (l = 1 ∨ l = 2) ∧ T.la c = (l, 1) ∧ qF (costW T ps (W, 1) n (x ++ [c])) = ((n * (x.length + l) : Nat) : Rat) + s ∧ s * ((N ^ (x.length + 1) : Nat) : Rat) = ((W : Nat) : Rat) ∧ 0 ≤ s := by
  obtain ⟨lo, e⟩ := costW_q h hp hf hn hx hc
  refine ⟨lo, qF (shF ps (W, 1) (x ++ [c])), ?_⟩
  have sh := sh37 pu h3 (x ++ [c]) (W, 1) [] Nat.one_pos List.mem_cons_self fun d hd => by
    rw [← u.cs]
    rcases List.mem_append.mp hd with hd | hd
    · exact hx d hd
    · rw [List.mem_singleton.mp hd]
      exact hcc
  rw [List.length_append, List.length_singleton, q_nat] at sh
  obtain ⟨l, hl, el⟩ : ∃ l : Nat, (l = 1 ∨ l = 2) ∧ T.la c = (l, 1) := by
    rcases la37 u h hc with z | z
    · exact ⟨1, .inl rfl, z⟩
    · exact ⟨2, .inr rfl, z⟩
  refine ⟨l, hl, el, ?_, sh, qF_nn _⟩
  rw [e, el, way37 u h hx, q_nat, q_nat, q_nat, ← Rat.natCast_add, ← Rat.natCast_mul]
theorem pow_ge {N : Nat} (h3 : 3 ≤ N) : ∀ k : Nat, k + 1 ≤ N ^ k
  | 0 => by rw [Nat.pow_zero]; exact Nat.le_refl _
  | k + 1 => by
    have := pow_ge h3 k
    have : (k + 1) * 3 ≤ N ^ k * N := Nat.mul_le_mul this h3
    rw [Nat.pow_succ]
    omega
theorem rat_pos {k : Nat} (h : 0 < k) : (0 : Rat) < ((k : Nat) : Rat) := by
  have : ((0 : Nat) : Rat) < ((k : Nat) : Rat) := Rat.natCast_lt_natCast.mpr h
  exact this
/-- the exact value is undercut by no word -/
theorem ok37 {T : Tg} {N L : Nat} (u : U37 T N L) (h : Good T) (h3 : 3 ≤ N) {ps : List Par} (pu : Pu N ps) (hp : PtOk T.codes ps) {n dp : Nat} (hn : n ≤ 1000000000) (hf : Lo 62 (n * N ^ (dp - 1), 1)) (hd : 1 ≤ dp) {w : List Nat} (hw : ∀ c ∈ w, c ∈ T.codes) : okB T ps (n * N ^ (dp - 1), 1) n (n * dp, 1) w = true := by
  rcases List.eq_nil_or_concat w with e | ⟨x, c, e⟩
  · subst e
    rfl
  · rw [List.concat_eq_append] at e
    subst e
    unfold okB
    rw [isW_snoc]
    cases hc : T.ends c with
    | false => rfl
    | true =>
      have hx : ∀ d ∈ x, d ∈ T.codes := fun d hd => hw d (List.mem_append_left _ hd)
      have hcc : c ∈ T.codes := hw c (List.mem_append_right _ List.mem_cons_self)
      obtain ⟨lo, s, l, hl, _, e, es, s0⟩ := cost37 u h h3 pu hp hf hn hx hc hcc
      have lv : Low (n * dp, 1) := ⟨Nat.one_pos, Nat.gcd_one_left _⟩
      rw [Bool.true_and, Bool.not_eq_true', decide_eq_false_iff_not]
      refine fun z => Rat.not_lt.mpr ?_ ((less_q lo lv).mp z)
      rw [e, q_nat]
      have l1 : 1 ≤ l := by omega
      by_cases g : dp ≤ x.length + 1
      · have : n * dp ≤ n * (x.length + l) := Nat.mul_le_mul_left n (by omega)
        have t : ((n * dp : Nat) : Rat) ≤ ((n * (x.length + l) : Nat) : Rat) := Rat.natCast_le_natCast.mpr this
        exact Rat.le_trans t (le_add_nn s0)
      · obtain ⟨k, ek⟩ : ∃ k, dp - 1 = k + (x.length + 1) := ⟨dp - 1 - (x.length + 1), by omega⟩
        have ew : n * N ^ (dp - 1) = n * N ^ k * N ^ (x.length + 1) := by rw [ek, Nat.pow_add, Nat.mul_assoc]
        rw [ew, Rat.natCast_mul] at es
        have np : (0 : Rat) < ((N ^ (x.length + 1) : Nat) : Rat) := rat_pos (Nat.pow_pos (by omega))
        have se : s = ((n * N ^ k : Nat) : Rat) := by
          have := congrArg (fun q => q * (((N ^ (x.length + 1) : Nat) : Rat))⁻¹) es
          simp only [Rat.mul_assoc, Rat.mul_inv_cancel _ (Rat.ne_of_gt np), Rat.mul_one] at this
          exact this
        rw [se, ← Rat.natCast_add]
        refine Rat.natCast_le_natCast.mpr ?_
        have p := pow_ge h3 k
        have a1 : n * (x.length + 1) ≤ n * (x.length + l) := Nat.mul_le_mul_left n (by omega)
        have a2 : n * (k + 1) ≤ n * N ^ k := Nat.mul_le_mul_left n p
        have a3 : n * dp = n * (x.length + 1) + n * (k + 1) := by rw [← Nat.mul_add]; congr 1; omega
        omega
theorem nil_codes {T : Tg} : ∀ c ∈ ([] : List Nat), c ∈ T.codes := fun _ h => nomatch h
theorem below_codes {T : Tg} {m : Nat} {u : List Nat} (h : u ∈ T.below m []) : ∀ c ∈ u, c ∈ T.codes := by
  obtain ⟨x, c, rfl, _, hc⟩ := below_mem h
  rw [List.nil_append]
  exact hc
theorem holds37 {T : Tg} {N ft L n dp : Nat} (u : U37 T N L) (h : Good T) {ps : List Par} (pu : Pu N ps) (hp : PtOk T.codes ps) (c : C37 N ft dp L n) (hf : Lo 62 (n * N ^ (dp - 1), 1)) : holdsG T ps (n * N ^ (dp - 1), 1) n (n * dp, 1) = decide (dp ≤ ft) := by
  have h3 : 3 ≤ N := by have := c.hN; omega
  have h6 : N ≤ 6 := by have := c.hN; omega
  have hd : 1 ≤ dp := by have := c.hd; have := c.hN; omega
  have n0 := c.n0
  have al : (xk T n (n * dp, 1) []).all (okB T ps (n * N ^ (dp - 1), 1) n (n * dp, 1)) = true := List.all_eq_true.mpr fun w hw => ok37 u h h3 pu hp c.n1 hf hd (below_codes (expl_sub _ _ _ hw))
  have ct : ∀ w : List Nat, (∀ c ∈ w, c ∈ T.codes) → contB T n (n * dp, 1) w = decide (w.length < dp) := fun w hw => by
    rw [cont37 u h n _ hw]
    refine decide_eq_decide.mpr ?_
    show n * w.length * 1 < n * dp ↔ _
    rw [Nat.mul_one]
    exact Nat.mul_lt_mul_left (by omega)
  have le := expl37_len u h6 ct T.long [] nil_codes
  unfold holdsG
  rw [al, Bool.true_and]
  unfold xk
  rw [List.length_nil, Nat.sub_zero, le, u.lg, List.length_nil, Nat.sub_zero]
  have hN := c.hN
  have hdd := c.hd
  have hL := c.hL
  rcases hN with ⟨rfl, rfl⟩ | ⟨rfl, rfl⟩ | ⟨rfl, rfl⟩ | ⟨rfl, rfl⟩ <;> rcases hdd with rfl | rfl | e
  · rcases hL with rfl | rfl <;> decide +kernel
  · rcases hL with rfl | rfl <;> decide +kernel
  · obtain rfl : dp = 6 := by omega
    rcases hL with rfl | rfl <;> decide +kernel
  · rcases hL with rfl | rfl <;> decide +kernel
  · rcases hL with rfl | rfl <;> decide +kernel
  · obtain rfl : dp = 4 := by omega
    rcases hL with rfl | rfl <;> decide +kernel
  · rcases hL with rfl | rfl <;> decide +kernel
  · rcases hL with rfl | rfl <;> decide +kernel
  · obtain rfl : dp = 4 := by omega
    rcases hL with rfl | rfl <;> decide +kernel
  · rcases hL with rfl | rfl <;> decide +kernel
  · rcases hL with rfl | rfl <;> decide +kernel
  · obtain rfl : dp = 3 := by omega
    rcases hL with rfl | rfl <;> decide +kernel
theorem holds37_0 {T : Tg} {N L n : Nat} (u : U37 T N L) (h : Good T) {ps : List Par} {f : Nat × Nat} (m : Nat) : holdsG T ps f m (0, 1) = true := by
  have : xk T m (0, 1) [] = [] := xk_stop (.inr (by rw [cont37 u h m _ nil_codes]; exact decide_eq_false (by show ¬ _ < 0; omega)))
  unfold holdsG
  rw [this]
  rfl
theorem holds37_1 {T : Tg} {N ft L n dp : Nat} (u : U37 T N L) (h : Good T) {ps : List Par} (pu : Pu N ps) (hp : PtOk T.codes ps) (c : C37 N ft dp L n) (hf : Lo 62 (n * N ^ (dp - 1), 1)) (hv : Low (n * dp * 1000000 + 1, 1000000)) : holdsG T ps (n * N ^ (dp - 1), 1) n (n * dp * 1000000 + 1, 1000000) = false := by
  have h3 : 3 ≤ N := by have := c.hN; omega
  have n0 := c.n0
  have ct : ∀ w : List Nat, (∀ c ∈ w, c ∈ T.codes) → contB T n (n * dp * 1000000 + 1, 1000000) w = decide (w.length < dp + 1) := fun w hw => by
    rw [cont37 u h n _ hw]
    refine decide_eq_decide.mpr ?_
    show n * w.length * 1000000 < n * dp * 1000000 + 1 ↔ _
    have key : n * w.length ≤ n * dp ↔ w.length ≤ dp := Nat.mul_le_mul_left_iff (by omega)
    omega
  have hcs : T.codes = 102 :: T.codes.tail := by
    obtain ⟨rest, e⟩ := u.hd
    unfold Tg.codes
    rw [e]
    rfl
  have h102 : 102 ∈ T.codes := by rw [hcs]; exact List.mem_cons_self
  have en : T.ends 102 = true := by
    obtain ⟨rest, e⟩ := u.hd
    have := ends_of (T := T) h.nd (r := (102, one1, one1)) (by rw [e]; exact List.mem_cons_self)
    exact this
  obtain ⟨j, ej⟩ : ∃ j, dp = j + 2 := ⟨dp - 2, by have := c.hd; have := c.hN; omega⟩
  have hL : j + 2 ≤ L := by have := c.hL; have := c.hd; have := c.hN; omega
  have rc : ∀ d ∈ List.replicate j 102, d ∈ T.codes := fun d hd => by rw [List.eq_of_mem_replicate hd]; exact h102
  have wc : ∀ d ∈ List.replicate j 102 ++ [102], d ∈ T.codes := fun d hd => by
    rcases List.mem_append.mp hd with hd | hd
    · exact rc d hd
    · rw [List.mem_singleton.mp hd]
      exact h102
  have mem : List.replicate j 102 ++ [102] ∈ xk T n (n * dp * 1000000 + 1, 1000000) [] := by
    have := expl37_mem u ct T.long [] (List.replicate j 102 ++ [102]) nil_codes wc (by simp) (by rw [u.lg, List.length_append, List.length_replicate, List.length_singleton]; omega) (by rw [List.length_append, List.length_replicate, List.length_singleton, List.length_nil]; omega)
    unfold xk
    rw [List.length_nil, Nat.sub_zero]
    exact this
  have bad : okB T ps (n * N ^ (dp - 1), 1) n (n * dp * 1000000 + 1, 1000000) (List.replicate j 102 ++ [102]) = false := by
    unfold okB
    rw [isW_snoc, en, Bool.true_and, Bool.not_eq_false', decide_eq_true_iff]
    obtain ⟨lo, s, l, hl, el, e, es, s0⟩ := cost37 u h h3 pu hp hf c.n1 rc en h102
    refine (less_q lo hv).mpr ?_
    have l1 : l = 1 := by
      obtain ⟨_, _, r, hr, e1, e2⟩ := la_e h en
      obtain ⟨rest, e3⟩ := u.hd
      have := nd_inj h.nd hr (show (102, one1, one1) ∈ T.signs by rw [e3]; exact List.mem_cons_self) e1
      rw [this, el] at e2
      unfold frD one1 at e2
      simp at e2
      omega
    have sn : s = ((n : Nat) : Rat) := by
      rw [List.length_replicate, show dp - 1 = j + 1 by omega, Rat.natCast_mul] at es
      have np : (0 : Rat) < ((N ^ (j + 1) : Nat) : Rat) := rat_pos (Nat.pow_pos (by omega))
      have := congrArg (fun q => q * (((N ^ (j + 1) : Nat) : Rat))⁻¹) es
      simp only [Rat.mul_assoc, Rat.mul_inv_cancel _ (Rat.ne_of_gt np), Rat.mul_one] at this
      exact this
    rw [e, sn, l1, List.length_replicate, ← Rat.natCast_add, show n * (j + 1) + n = n * dp by rw [ej, ← Nat.mul_succ], ← q_nat]
    refine (less_q ⟨Nat.one_pos, Nat.gcd_one_left _⟩ hv).mp ?_
    show n * dp * 1000000 < (n * dp * 1000000 + 1) * 1
    omega
  unfold holdsG
  have : (xk T n (n * dp * 1000000 + 1, 1000000) []).all (okB T ps (n * N ^ (dp - 1), 1) n (n * dp * 1000000 + 1, 1000000)) = false := by
    rw [Bool.eq_false_iff]
    intro z
    have := List.all_eq_true.mp z _ mem
    rw [bad] at this
    cases this
  rw [this]
  rfl
end Du

namespace Du
open PySem PySem.Spec PyProof.Rows L2 Dear
/-! ### k37: the law -/
theorem pow37 {N ft dp L n : Nat} (c : C37 N ft dp L n) (j : Nat) (hj : j ≤ dp - 1) : n * N ^ j < 2 ^ 50 := by
  have n1 := c.n1
  have key : N ^ j ≤ 3125 := by
    have le : N ^ j ≤ N ^ (dp - 1) := Nat.pow_le_pow_right (by have := c.hN; omega) hj
    refine Nat.le_trans le ?_
    rcases c.hN with ⟨rfl, rfl⟩ | ⟨rfl, rfl⟩ | ⟨rfl, rfl⟩ | ⟨rfl, rfl⟩ <;> rcases c.hd with rfl | rfl | e
    · decide
    · decide
    · obtain rfl : dp = 6 := by omega
      decide
    · decide
    · decide
    · obtain rfl : dp = 4 := by omega
      decide
    · decide
    · decide
    · obtain rfl : dp = 4 := by omega
      decide
    · decide
    · decide
    · obtain rfl : dp = 3 := by omega
      decide
  have := Nat.mul_le_mul n1 key
  omega
def w1 : List Nat := [111, 110, 101]
def w2 : List Nat := [116, 119, 111]
theorem wn37 {n m : Nat} (hn : n ≤ 1000000000) (hm : m ≤ 1000000000) : Wn [(w1, n)] ∧ Wn [(w1, n), (w2, m)] ∧ Wn [(w2, m), (w1, n)] := by
  have k1 : NmOk w1 := ⟨by decide, by decide, by decide⟩
  have k2 : NmOk w2 := ⟨by decide, by decide, by decide⟩
  refine ⟨⟨by simp, by simp, forall_cons k1 forall_nil, by show [w1].Nodup; decide, forall_cons hn forall_nil⟩, ⟨by simp, by simp, forall_cons k1 (forall_cons k2 forall_nil), by show [w1, w2].Nodup; decide, forall_cons hn (forall_cons hm forall_nil)⟩, ⟨by simp, by simp, forall_cons k2 (forall_cons k1 forall_nil), by show [w2, w1].Nodup; decide, forall_cons hm (forall_cons hn forall_nil)⟩⟩
theorem lets37 {T : Tg} {N L W : Nat} (u : U37 T N L) (h : Good T) (h3 : 3 ≤ N) (h6 : N ≤ 6) {ps : List Par} (pu : Pu N ps) {ws : List (List Nat × Nat)} (hw : Wn ws) {vs : List (Nat × Nat)} (hf : Lo 62 (W, 1)) (vl : vs.length = ws.length) (vo : ∀ v ∈ vs, Lo 1000 v) :
    F_lets_shares [T.d, wnD ws, sharesD (W, 1) ps vs] = .ok (.bl ((ws.zip vs).all fun x => holdsG T ps (W, 1) x.1.2 x.2)) := by
  have pk : PtOk T.codes ps := by rw [u.cs]; exact pu.ok h3 h6
  have fb : formB T ps = true := by
    unfold formB
    rw [Bool.not_eq_true', List.any_eq_false]
    intro a ha
    have : T.aheads = al37 N := by unfold Tg.aheads al37; rw [u.cs]
    rw [this] at ha
    rw [pu.form a ha]
    exact Bool.false_ne_true
  open Classical in
  have so : ShOk T ws (W, 1) ps vs (decide (∀ x ∈ ws.zip vs, HoldO (boundF T ps (W, 1) x.1.2) x.2)) := ⟨hf, pk, pu.len, vl, vo, decide_eq_true_iff⟩
  rw [lets_shares_g h hw so, fb, Bool.true_and]
def lE (ns : List Int) (s : D) (N ft dp L n : Nat) (td : D) (x8 x9 x10 x11 x12 x13 x14 x15 x16 : Option Slot) : Env :=
  [some (.frz (.scr ns)), some (.own false s), some (.frz (.int N)), some (.frz (.int ft)), some (.frz (.int dp)), some (.frz (.int L)), some (.frz (.int n)), some (.frz td), x8, x9, x10, x11, x12, x13, x14, x15, x16]
theorem whole37 {N ft dp L n : Nat} (c : C37 N ft dp L n) (ns : List Int) (s td : D) : ∀ (m j : Nat), j + m = dp - 1 →
    forL (tgN 9) B_law_1 [9] ((List.range' j m).map fun i => D.int (i : Nat)) (lE ns s N ft dp L n td (some (.frz (.int ((n * N ^ j : Nat) : Int)))) none none none none none none none none) = .nx (lE ns s N ft dp L n td (some (.frz (.int ((n * N ^ (dp - 1) : Nat) : Int)))) none none none none none none none none)
  | 0, j, e => by rw [show j = dp - 1 by omega]; rfl
  | m + 1, j, e => by
    have ih := whole37 c ns s td m (j + 1) (by omega)
    have p := pow37 c j (by omega)
    have cm : CMulA ((n * N ^ j : Nat) : Int) (N : Int) := cmulN p (show N < 2 ^ 50 by have := c.hN; omega) (by decide) (by decide)
    rw [List.range'_succ, List.map_cons, forL_cons, tgN_e, forT_ok]
    have b : B_law_1 (setS (lE ns s N ft dp L n td (some (.frz (.int ((n * N ^ j : Nat) : Int)))) none none none none none none none none) [(9, .int (j : Nat))]) = .nx (lE ns s N ft dp L n td (some (.frz (.int ((n * N ^ (j + 1) : Nat) : Int)))) (some (.frz (.int (j : Nat)))) none none none none none none none) := by
      have e1 : ((n * N ^ (j + 1) : Nat) : Int) = ((n * N ^ j : Nat) : Int) * (N : Int) := by rw [Nat.pow_succ, ← Nat.mul_assoc, Int.natCast_mul]
      rw [B_law_1_u, e1]
      generalize ((n * N ^ j : Nat) : Int) = q at *
      simp [lE, cm]
    rw [b, forK_nx]
    exact ih
theorem law_u (ns : List Int) : F_law [.scr ns] = outR (B_law [some (.frz (.scr ns)), none, none, none, none, none, none, none, none, none, none, none, none, none, none, none, none]) := by rfl
end Du

namespace Du
open PySem PySem.Spec PyProof.Rows L2 Dear
def sl37 (b : Bool) (d : D) : Option Slot := some (if b = true then .own false d else .frz d)
noncomputable def tail37 : Env → Out := (sSeq (sAsg [11] (eTup (aCons (eTup (aCons (eVar 8) (aCons (eC (.int 1)) aNil))) (aCons (eCall F__law_parts (aCons (eVar 2) aNil)) (aCons (eVar 11) aNil)))) (tgN 14))
(sSeq (sAsg [10] (eCall F_lets_shares (aCons (eVar 7) (aCons (eVar 10) (aCons (eVar 14) aNil)))) (tgN 15))
(sSeq (sIf [] (bOr (bNot (bT (eIsi "bool" (eVar 15)))) (bT (eOp dNe (eVar 15) (eVar 12))))
(sRet [] (eC (.bl false)))
sPass)
(sSeq (sIf [] (bOr (bT (eOp dGe (eVar 4) (eVar 3))) (bT (eVar 13)))
(sRet [] (eC (.bl true)))
sPass)
(sSeq (sAsg [11] (eTup (aCons (eOp dIx (eVar 14) (eC (.int 0))) (aCons (eUn dRev (eOp dIx (eVar 14) (eC (.int 1)))) (aCons (eUn dRev (eVar 11)) aNil)))) (tgN 16))
(sRet [10] (eOp dEq (eCall F_lets_shares (aCons (eVar 7) (aCons (eUn dRev (eVar 10)) (aCons (eVar 16) aNil)))) (eVar 12))))))))
theorem tail37_e (ns : List Int) (s : D) {N ft dp L n W : Nat} (h6 : N ≤ 6) (td : D) (b : Bool) {ws : List (List Nat × Nat)} {vs : List (Nat × Nat)} {due tw : Bool}
    (e1 : F_lets_shares [td, wnD ws, sharesD (W, 1) (ps37 N (al37 N)) vs] = .ok (.bl due))
    (e2 : dp < ft → tw = false → F_lets_shares [td, wnD ws.reverse, sharesD (W, 1) (ps37 N (al37 N)).reverse vs.reverse] = .ok (.bl due)) :
    ∃ ρ', tail37 (lE ns s N ft dp L n td (some (.frz (.int (W : Nat)))) none (sl37 b (wnD ws)) (sl37 b (.lst (vs.map frD))) (some (.frz (.bl due))) (some (.frz (.bl tw))) none none none) = .rt (.bl true) ρ' := by
  have pe := parts37_e h6
  have nb : ∀ a b : Bool, dNe (.bl a) (.bl b) = .ok (.bl (!decide (a = b))) := fun a b => by
    rw [dNe_of rfl rfl]
    cases a <;> cases b <;> rfl
  have ib : isKind "bool" (.bl due) = .ok (.bl true) := rfl
  have eb : dEq (.bl due) (.bl due) = .ok (.bl true) := dEq_self rfl
  have rw1 : dRev (wnD ws) = .ok (wnD ws.reverse) := by
    unfold wnD
    rw [List.map_reverse]
    rfl
  have rw2 : dRev (.lst (vs.map frD)) = .ok (.lst (vs.reverse.map frD)) := by rw [List.map_reverse]; rfl
  have rw3 : dRev (.lst ((ps37 N (al37 N)).map partD)) = .ok (.lst ((ps37 N (al37 N)).reverse.map partD)) := by rw [List.map_reverse]; rfl
  have mk1 : D.tup [.tup [.int (W : Nat), .int 1], .lst ((ps37 N (al37 N)).map partD), .lst (vs.map frD)] = sharesD (W, 1) (ps37 N (al37 N)) vs := rfl
  have mk2 : D.tup [frD (W, 1), .lst ((ps37 N (al37 N)).reverse.map partD), .lst (vs.reverse.map frD)] = sharesD (W, 1) (ps37 N (al37 N)).reverse vs.reverse := rfl
  have i0 : dIx (sharesD (W, 1) (ps37 N (al37 N)) vs) (.int 0) = .ok (frD (W, 1)) := rfl
  have i1 : dIx (sharesD (W, 1) (ps37 N (al37 N)) vs) (.int 1) = .ok (.lst ((ps37 N (al37 N)).map partD)) := rfl
  have n1 : imm (wnD ws) = false := rfl
  have n2 : imm (D.lst (vs.map frD)) = false := rfl
  have n3 : imm (sharesD (W, 1) (ps37 N (al37 N)) vs) = false := rfl
  have n4 : imm (sharesD (W, 1) (ps37 N (al37 N)).reverse vs.reverse) = false := rfl
  generalize sharesD (W, 1) (ps37 N (al37 N)) vs = sd at *
  generalize sharesD (W, 1) (ps37 N (al37 N)).reverse vs.reverse = sr at *
  generalize D.lst ((ps37 N (al37 N)).map partD) = P at *
  generalize D.lst ((ps37 N (al37 N)).reverse.map partD) = Pr at *
  generalize D.lst (vs.map frD) = V at *
  generalize D.lst (vs.reverse.map frD) = Vr at *
  generalize wnD ws = wd at *
  generalize wnD ws.reverse = wr at *
  generalize frD (W, 1) = fw at *
  have st1 : ∀ R : Env → Out, sSeq (sAsg [11] (eTup (aCons (eTup (aCons (eVar 8) (aCons (eC (.int 1)) aNil))) (aCons (eCall F__law_parts (aCons (eVar 2) aNil)) (aCons (eVar 11) aNil)))) (tgN 14)) R (lE ns s N ft dp L n td (some (.frz (.int (W : Nat)))) none (sl37 b wd) (sl37 b V) (some (.frz (.bl due))) (some (.frz (.bl tw))) none none none) =
      R (lE ns s N ft dp L n td (some (.frz (.int (W : Nat)))) none (sl37 b wd) (some (.frz V)) (some (.frz (.bl due))) (some (.frz (.bl tw))) (some (.frz sd)) none none) := by
    intro R
    refine seq_to ?_ rfl
    cases b <;> simp [lE, sl37, pe, mk1, n3, n2]
  have st2 : ∀ R : Env → Out, sSeq (sAsg [10] (eCall F_lets_shares (aCons (eVar 7) (aCons (eVar 10) (aCons (eVar 14) aNil)))) (tgN 15)) R (lE ns s N ft dp L n td (some (.frz (.int (W : Nat)))) none (sl37 b wd) (some (.frz V)) (some (.frz (.bl due))) (some (.frz (.bl tw))) (some (.frz sd)) none none) =
      R (lE ns s N ft dp L n td (some (.frz (.int (W : Nat)))) none (sl37 b wd) (some (.frz V)) (some (.frz (.bl due))) (some (.frz (.bl tw))) (some (.frz sd)) (some (.frz (.bl due))) none) := by
    intro R
    refine seq_to ?_ rfl
    cases b <;> simp [lE, sl37, e1, n1]
  have st3 : ∀ R : Env → Out, sSeq (sIf [] (bOr (bNot (bT (eIsi "bool" (eVar 15)))) (bT (eOp dNe (eVar 15) (eVar 12)))) (sRet [] (eC (.bl false))) sPass) R (lE ns s N ft dp L n td (some (.frz (.int (W : Nat)))) none (sl37 b wd) (some (.frz V)) (some (.frz (.bl due))) (some (.frz (.bl tw))) (some (.frz sd)) (some (.frz (.bl due))) none) =
      R (lE ns s N ft dp L n td (some (.frz (.int (W : Nat)))) none (sl37 b wd) (some (.frz V)) (some (.frz (.bl due))) (some (.frz (.bl tw))) (some (.frz sd)) (some (.frz (.bl due))) none) := by
    intro R
    refine seq_to ?_ rfl
    cases b <;> simp [lE, sl37, ib, nb]
  unfold tail37
  rw [st1, st2, st3]
  by_cases hd : dp < ft ∧ tw = false
  · obtain ⟨hd, rfl⟩ := hd
    have e2' := e2 hd rfl
    cases b with
    | false =>
      refine ⟨?_, ?_⟩
      rotate_left
      · refine seq_to (ρ' := lE ns s N ft dp L n td (some (.frz (.int (W : Nat)))) none (sl37 false wd) (some (.frz V)) (some (.frz (.bl due))) (some (.frz (.bl false))) (some (.frz sd)) (some (.frz (.bl due))) none) (by simp [lE, sl37, show ¬ (ft : Int) ≤ (dp : Int) by omega, show ¬ ft ≤ dp by omega]) ?_
        refine seq_to (ρ' := lE ns s N ft dp L n td (some (.frz (.int (W : Nat)))) none (sl37 false wd) (some (.frz V)) (some (.frz (.bl due))) (some (.frz (.bl false))) (some (.frz sd)) (some (.frz (.bl due))) (some (.frz sr))) (by simp [lE, sl37, i0, i1, rw2, rw3, mk2]) ?_
        simp [lE, sl37, rw1, e2', eb]
        rfl
    | true =>
      refine ⟨?_, ?_⟩
      rotate_left
      · refine seq_to (ρ' := lE ns s N ft dp L n td (some (.frz (.int (W : Nat)))) none (sl37 true wd) (some (.frz V)) (some (.frz (.bl due))) (some (.frz (.bl false))) (some (.frz sd)) (some (.frz (.bl due))) none) (by simp [lE, sl37, show ¬ (ft : Int) ≤ (dp : Int) by omega, show ¬ ft ≤ dp by omega]) ?_
        refine seq_to (ρ' := lE ns s N ft dp L n td (some (.frz (.int (W : Nat)))) none (sl37 true wd) (some (.frz V)) (some (.frz (.bl due))) (some (.frz (.bl false))) (some (.frz sd)) (some (.frz (.bl due))) (some (.frz sr))) (by simp [lE, sl37, i0, i1, rw2, rw3, mk2]) ?_
        simp [lE, sl37, rw1, e2', eb]
        rfl
  · refine ⟨lE ns s N ft dp L n td (some (.frz (.int (W : Nat)))) none (sl37 b wd) (some (.frz V)) (some (.frz (.bl due))) (some (.frz (.bl tw))) (some (.frz sd)) (some (.frz (.bl due))) none, ?_⟩
    rw [sSeq_e]
    by_cases g : ft ≤ dp
    · cases b <;> simp [lE, sl37, g, show (ft : Int) ≤ (dp : Int) by omega]
    · have : tw = true := by
        cases tw
        · exact absurd ⟨by omega, rfl⟩ hd
        · rfl
      subst this
      cases b <;> simp [lE, sl37, g, show ¬ (ft : Int) ≤ (dp : Int) by omega]
end Du

namespace Du
open PySem PySem.Spec PyProof.Rows L2 Dear
/-! ### k37: the law, joined -/
theorem law_e (ns : List Int) (hl : ns.length ≤ 63) : F_law [.scr ns] = .ok (.bl true) := by
  obtain ⟨c0, ec, _⟩ := cell_at ns hl 0
  obtain ⟨s, es, hs⟩ := source_e c0 0 (by decide)
  have hs0 := hs
  obtain ⟨q1, q2, rfl, _, _⟩ := hs0
  obtain ⟨s1, N, ft, dp, L, n, e1, hs1, c⟩ := case_e hs
  have h3 : 3 ≤ N := by have := c.hN; omega
  have h6 : N ≤ 6 := by have := c.hN; omega
  have h4 : N = 3 ∨ N = 4 ∨ N = 5 ∨ N = 6 := by have := c.hN; omega
  have l0 : 1 ≤ L := by have := c.hL; have := c.hd; have := c.hN; omega
  have l1 : L ≤ 8 := by have := c.hL; have := c.hd; have := c.hN; omega
  have d1 : 1 ≤ dp := by have := c.hd; have := c.hN; omega
  have d8 : dp ≤ 8 := by have := c.hd; have := c.hN; omega
  obtain ⟨s2, T, e2, hs2, u⟩ := tongue37_e hs1 (N := N) (L := L) h3 h6
  have h := u.good h3 h6 l0 l1
  have n1 := c.n1
  have n0 := c.n0
  obtain ⟨kA, s3, eA, a0, a1, hs3⟩ := draw_e (m := 4) (by decide) (by decide) hs2
  obtain ⟨kB, s4, eB, b0, b1, hs4⟩ := draw_e (m := 2) (by decide) (by decide) hs3
  obtain ⟨kC, s5, eC', g0, g1, hs5⟩ := draw_e (m := 3) (by decide) (by decide) hs4
  have pu := pu_e h4
  have pr := pu_r h4
  have pk1 : PtOk T.codes (ps37 N (al37 N)) := by rw [u.cs]; exact pu.ok h3 h6
  have pk2 : PtOk T.codes (ps37 N (al37 N)).reverse := by rw [u.cs]; exact pr.ok h3 h6
  have hW := pow37 c (dp - 1) (Nat.le_refl _)
  have hf : Lo 62 (n * N ^ (dp - 1), 1) := ⟨Nat.one_pos, Nat.gcd_one_left _, Nat.lt_of_lt_of_le hW (by decide), by show 1 < 2 ^ 62; decide⟩
  have nd : n * dp ≤ 8000000000 := Nat.le_trans (Nat.mul_le_mul n1 d8) (by decide)
  have cast : ((n * dp : Nat) : Int) = (n : Int) * (dp : Int) := Int.natCast_mul _ _
  have cm : CMulA (n : Int) (dp : Int) := cmulN (k := 50) (show n < 2 ^ 50 by omega) (show dp < 2 ^ 50 by omega) (by decide) (by decide)
  have cm2 : CMulA ((n : Int) * (dp : Int)) 1000000 := by
    have := cmulN (a := n * dp) (b := 1000000) (k := 50) (by omega) (by decide) (by decide) (by decide)
    rw [cast] at this
    exact this
  -- the values
  have loE : Lo 1000 (n * dp, 1) := ⟨Nat.one_pos, Nat.gcd_one_left _, Nat.lt_of_lt_of_le (show n * dp < 2 ^ 50 by omega) (Nat.pow_le_pow_right (by decide) (by decide)), Nat.one_lt_two_pow (by decide)⟩
  have lo0 : Lo 1000 (0, 1) := lo_zero.mono (by decide)
  have gI : Nat.gcd 1000000 (n * dp * 1000000 + 1) = 1 := by
    rw [Nat.gcd_comm, Nat.mul_comm, Nat.gcd_mul_left_add_left, Nat.gcd_one_left]
  have loI : Lo 1000 (n * dp * 1000000 + 1, 1000000) := ⟨by show 0 < 1000000; decide, gI, Nat.lt_of_lt_of_le (show n * dp * 1000000 + 1 < 2 ^ 60 by omega) (Nat.pow_le_pow_right (by decide) (by decide)), Nat.lt_of_lt_of_le (show 1000000 < 2 ^ 60 by decide) (Nat.pow_le_pow_right (by decide) (by decide))⟩
  obtain ⟨v1, due, lo1, hd1, hd2, stA⟩ : ∃ (v1 : Nat × Nat) (due : Bool), Lo 1000 v1 ∧ holdsG T (ps37 N (al37 N)) (n * N ^ (dp - 1), 1) n v1 = due ∧ holdsG T (ps37 N (al37 N)).reverse (n * N ^ (dp - 1), 1) n v1 = due ∧
      (if kA = 1 then (v1 = (n * dp * 1000000 + 1, 1000000) ∧ due = false) else (v1 = (n * dp, 1) ∧ due = decide (dp ≤ ft))) := by
    by_cases k : kA = 1
    · exact ⟨_, false, loI, holds37_1 u h pu pk1 c hf loI.low, holds37_1 u h pr pk2 c hf loI.low, by rw [if_pos k]; exact ⟨rfl, rfl⟩⟩
    · exact ⟨_, _, loE, holds37 u h pu pk1 c hf, holds37 u h pr pk2 c hf, by rw [if_neg k]; exact ⟨rfl, rfl⟩⟩
  have ex1 := holds37 u h pu pk1 c hf
  have z1 := fun m => holds37_0 u h (n := n) (ps := ps37 N (al37 N)) (f := (n * N ^ (dp - 1), 1)) m
  have z2 := fun m => holds37_0 u h (n := n) (ps := (ps37 N (al37 N)).reverse) (f := (n * N ^ (dp - 1), 1)) m
  have wn := wn37 (n := n) (m := 0) n1 (by decide)
  have wn' := wn37 (n := n) (m := n) n1 n1
  have A1 : F_lets_shares [T.d, wnD [(w1, n)], sharesD (n * N ^ (dp - 1), 1) (ps37 N (al37 N)) [v1]] = .ok (.bl due) := by
    rw [lets37 u h h3 h6 pu wn.1 hf rfl (forall_cons lo1 forall_nil)]
    simp [hd1]
  have A1r : F_lets_shares [T.d, wnD [(w1, n)], sharesD (n * N ^ (dp - 1), 1) (ps37 N (al37 N)).reverse [v1]] = .ok (.bl due) := by
    rw [lets37 u h h3 h6 pr wn.1 hf rfl (forall_cons lo1 forall_nil)]
    simp [hd2]
  have A2 : F_lets_shares [T.d, wnD [(w1, n), (w2, 0)], sharesD (n * N ^ (dp - 1), 1) (ps37 N (al37 N)) [v1, (0, 1)]] = .ok (.bl due) := by
    rw [lets37 u h h3 h6 pu wn.2.1 hf rfl (forall_cons lo1 (forall_cons lo0 forall_nil))]
    simp [hd1, z1]
  have A2r : F_lets_shares [T.d, wnD [(w2, 0), (w1, n)], sharesD (n * N ^ (dp - 1), 1) (ps37 N (al37 N)).reverse [(0, 1), v1]] = .ok (.bl due) := by
    rw [lets37 u h h3 h6 pr wn.2.2 hf rfl (forall_cons lo0 (forall_cons lo1 forall_nil))]
    simp [hd2, z2]
  have A3 : F_lets_shares [T.d, wnD [(w1, n), (w2, n)], sharesD (n * N ^ (dp - 1), 1) (ps37 N (al37 N)) [v1, (n * dp, 1)]] = .ok (.bl due) := by
    rw [lets37 u h h3 h6 pu wn'.2.1 hf rfl (forall_cons lo1 (forall_cons loE forall_nil))]
    have : (due && decide (dp ≤ ft)) = due := by
      by_cases k : kA = 1
      · rw [if_pos k] at stA
        rw [stA.2]
        rfl
      · rw [if_neg k] at stA
        rw [stA.2, Bool.and_self]
    simp only [List.zip_cons_cons, List.zip_nil_left, List.all_cons, List.all_nil, Bool.and_true]
    rw [hd1, ex1, this]
  -- the walk
  have T0 : ∀ (b : Bool) (ws : List (List Nat × Nat)) (vs : List (Nat × Nat)) (tw : Bool), F_lets_shares [T.d, wnD ws, sharesD (n * N ^ (dp - 1), 1) (ps37 N (al37 N)) vs] = .ok (.bl due) →
      (dp < ft → tw = false → F_lets_shares [T.d, wnD ws.reverse, sharesD (n * N ^ (dp - 1), 1) (ps37 N (al37 N)).reverse vs.reverse] = .ok (.bl due)) → ∀ s, ∃ ρ', tail37 (lE ns s N ft dp L n T.d (some (.frz (.int ((n * N ^ (dp - 1) : Nat) : Int)))) none (sl37 b (wnD ws)) (sl37 b (.lst (vs.map frD))) (some (.frz (.bl due))) (some (.frz (.bl tw))) none none none) = .rt (.bl true) ρ' :=
    fun b ws vs tw x y s => tail37_e ns s h6 T.d b x y
  have o1 : (.str (Str.ofString "one") : D) = .str (txt w1) := rfl
  have o2 : (.str (Str.ofString "two") : D) = .str (txt w2) := rfl
  have wh := whole37 c ns s2 T.d (dp - 1) 0 (by omega)
  rw [Nat.pow_zero, Nat.mul_one] at wh
  have rg := rng_e (dp - 1) (by omega)
  have cst : ((dp - 1 : Nat) : Int) = (dp : Int) - 1 := by omega
  rw [cst] at rg
  rw [law_u]
  have fin : ∃ ρ', B_law [some (.frz (.scr ns)), none, none, none, none, none, none, none, none, none, none, none, none, none, none, none, none] = .rt (.bl true) ρ' := by
    rw [B_law_u]
    have p1 : ∀ R : Env → Out, sSeq (sOwn 1 [] (eCall F__law_source (aCons (eCall F__law_cell_at (aCons (eVar 0) (aCons (eC (.int 0)) aNil))) (aCons (eC (.int 0)) aNil)))) (sSeq (sAsgM (mIO 0 1 F__law_case (mAP [] aNil)) (tgT [(tgN 2), (tgN 3), (tgN 4), (tgN 5), (tgN 6)])) (sSeq (sAsgM (mIO 0 1 F__law_tongue (mAP [] (aCons (eVar 2) (aCons (eVar 5) aNil)))) (tgN 7)) (sSeq (sAsg [] (eVar 6) (tgN 8)) R)))
        [some (.frz (.scr ns)), none, none, none, none, none, none, none, none, none, none, none, none, none, none, none, none] = R (lE ns s2 N ft dp L n T.d (some (.frz (.int n))) none none none none none none none none) := by
      intro R
      refine seq_to (ρ' := [some (.frz (.scr ns)), some (.own false (.lst [.int q1, .int q2])), none, none, none, none, none, none, none, none, none, none, none, none, none, none, none]) (by
        rw [own_to (d := .lst [.int q1, .int q2]) (by
          simp only [eCall_e, aCons_e, aNil_e]
          show bd F__law_source (cons2 (bd F__law_cell_at (.ok [.scr ns, .int 0])) (.ok [.int 0])) = _
          rw [bd_ok, show F__law_cell_at [.scr ns, .int 0] = _ from ec, cons2_ok, bd_ok, show F__law_source [.int c0, .int 0] = _ from es])]
        simp) ?_
      refine seq_to (ρ' := [some (.frz (.scr ns)), some (.own false s1), some (.frz (.int N)), some (.frz (.int ft)), some (.frz (.int dp)), some (.frz (.int L)), some (.frz (.int n)), none, none, none, none, none, none, none, none, none, none]) (by simp [e1]) ?_
      refine seq_to (ρ' := [some (.frz (.scr ns)), some (.own false s2), some (.frz (.int N)), some (.frz (.int ft)), some (.frz (.int dp)), some (.frz (.int L)), some (.frz (.int n)), some (.frz T.d), none, none, none, none, none, none, none, none, none]) (by
        generalize T.d = td at *
        simp [e2]) ?_
      refine seq_to (ρ' := lE ns s2 N ft dp L n T.d (some (.frz (.int n))) none none none none none none none none) (by
        generalize T.d = td at *
        simp [lE]) rfl
    rw [p1]
    have p2 : ∀ R : Env → Out, sSeq (sFor [] (iRange (aCons (eOp dSub (eVar 4) (eC (.int 1))) aNil)) (tgN 9) B_law_1 [9]) (sSeq (sOwn 10 [] (eLst (aCons (eTup (aCons (eC (.str "one")) (aCons (eVar 6) aNil))) (aCons (eTup (aCons (eC (.str "two")) (aCons (eC (.int 0)) aNil))) aNil)))) (sSeq (sOwn 11 [] (eLst (aCons (eTup (aCons (eOp dMul (eVar 6) (eVar 4)) (aCons (eC (.int 1)) aNil))) (aCons (eTup (aCons (eC (.int 0)) (aCons (eC (.int 1)) aNil))) aNil)))) (sSeq (sAsg [] (eOp dLe (eVar 4) (eVar 3)) (tgN 12)) R)))
        (lE ns s2 N ft dp L n T.d (some (.frz (.int n))) none none none none none none none none) = R (lE ns s2 N ft dp L n T.d (some (.frz (.int ((n * N ^ (dp - 1) : Nat) : Int)))) none (sl37 true (wnD [(w1, n), (w2, 0)])) (sl37 true (.lst ([(n * dp, 1), (0, 1)].map frD))) (some (.frz (.bl (decide (dp ≤ ft))))) none none none none) := by
      intro R
      refine seq_to (for_to (ds := (List.range' 0 (dp - 1)).map fun i => D.int (i : Nat)) (ρ' := lE ns s2 N ft dp L n T.d (some (.frz (.int n))) none none none none none none none none) ?_ (by simp [lE]) wh) ?_
      · have v : aCons (eOp dSub (eVar 4) (eC (.int 1))) aNil (view [] (lE ns s2 N ft dp L n T.d (some (.frz (.int n))) none none none none none none none none)) = .ok [.int ((dp : Int) - 1)] := rfl
        rw [iRange_e, v, bd_ok, rg]
      generalize ((n * N ^ (dp - 1) : Nat) : Int) = W at *
      refine seq_to (ρ' := lE ns s2 N ft dp L n T.d (some (.frz (.int W))) none (sl37 true (wnD [(w1, n), (w2, 0)])) none none none none none none) (by
        generalize T.d = td at *
        simp [lE, sl37, wnD, o1, o2]) ?_
      refine seq_to (ρ' := lE ns s2 N ft dp L n T.d (some (.frz (.int W))) none (sl37 true (wnD [(w1, n), (w2, 0)])) (sl37 true (.lst ([(n * dp, 1), (0, 1)].map frD))) none none none none none) (by
        generalize T.d = td at *
        simp [lE, sl37, frD, cm, cast]) ?_
      refine seq_to (ρ' := lE ns s2 N ft dp L n T.d (some (.frz (.int W))) none (sl37 true (wnD [(w1, n), (w2, 0)])) (sl37 true (.lst ([(n * dp, 1), (0, 1)].map frD))) (some (.frz (.bl (decide (dp ≤ ft))))) none none none none) (by
        generalize T.d = td at *
        generalize D.lst ([(n * dp, 1), (0, 1)].map frD) = V
        generalize wnD [(w1, n), (w2, 0)] = wd
        simp [lE, sl37]) rfl
    rw [p2]
    have p3 : ∀ R : Env → Out, sSeq (sIfM (mTest (mOp dEq (mIO 0 1 F__law_draw (mAP [] (aCons (eC (.int 4)) aNil))) (mP [] (eC (.int 1)))))
(sSeq (sPutL 11 [] (eTup (aCons (eOp dAdd (eOp dMul (eOp dMul (eVar 6) (eVar 4)) (eOp dPow (eC (.int 10)) (eC (.int 6)))) (eC (.int 1))) (aCons (eOp dPow (eC (.int 10)) (eC (.int 6))) aNil))) (eC (.int 0)))
(sAsg [] (eC (.bl false)) (tgN 12)))
sPass) R (lE ns s2 N ft dp L n T.d (some (.frz (.int ((n * N ^ (dp - 1) : Nat) : Int)))) none (sl37 true (wnD [(w1, n), (w2, 0)])) (sl37 true (.lst ([(n * dp, 1), (0, 1)].map frD))) (some (.frz (.bl (decide (dp ≤ ft))))) none none none none) = R (lE ns s3 N ft dp L n T.d (some (.frz (.int ((n * N ^ (dp - 1) : Nat) : Int)))) none (sl37 true (wnD [(w1, n), (w2, 0)])) (sl37 true (.lst ([v1, (0, 1)].map frD))) (some (.frz (.bl due))) none none none none) := by
      intro R
      refine seq_to ?_ rfl
      generalize ((n * N ^ (dp - 1) : Nat) : Int) = W at *
      generalize T.d = td at *
      generalize wnD [(w1, n), (w2, 0)] = wd at *
      by_cases k : kA = 1
      · rw [if_pos k] at stA
        obtain ⟨rfl, rfl⟩ := stA
        subst k
        simp [lE, sl37, eA, frD, cm, cm2, cast]
      · rw [if_neg k] at stA
        obtain ⟨rfl, rfl⟩ := stA
        simp [lE, sl37, eA, frD, k]
    rw [p3]
    have sl1 : ∀ a b : D, dSl (.lst [a, b]) none (some 1) = .ok (.lst [a]) := fun a b => rfl
    have e11 : wnD [(w1, n), (w2, 0)] = .lst [.tup [.str (txt w1), .int n], .tup [.str (txt w2), .int 0]] := rfl
    have e12 : D.lst ([v1, (0, 1)].map frD) = .lst [frD v1, frD (0, 1)] := rfl
    by_cases kb : kB = 1
    · obtain ⟨ρ', t⟩ := T0 false [(w1, n)] [v1] false A1 (fun _ _ => A1r) s4
      refine ⟨ρ', ?_⟩
      refine seq_to (ρ' := lE ns s4 N ft dp L n T.d (some (.frz (.int ((n * N ^ (dp - 1) : Nat) : Int)))) none (sl37 false (wnD [(w1, n)])) (sl37 false (.lst ([v1].map frD))) (some (.frz (.bl due))) none none none none) ?_ ?_
      · rw [e11, e12]
        have e13 : wnD [(w1, n)] = .lst [.tup [.str (txt w1), .int n]] := rfl
        have e14 : D.lst ([v1].map frD) = .lst [frD v1] := rfl
        rw [e13, e14]
        generalize ((n * N ^ (dp - 1) : Nat) : Int) = W at *
        generalize T.d = td at *
        generalize D.tup [.str (txt w1), .int n] = t1
        generalize D.tup [.str (txt w2), .int 0] = t2
        generalize frD v1 = f1
        generalize frD (0, 1) = f2
        subst kb
        simp [lE, sl37, eB, sl1]
      refine seq_to (ρ' := lE ns s4 N ft dp L n T.d (some (.frz (.int ((n * N ^ (dp - 1) : Nat) : Int)))) none (sl37 false (wnD [(w1, n)])) (sl37 false (.lst ([v1].map frD))) (some (.frz (.bl due))) (some (.frz (.bl false))) none none none) ?_ ?_
      · have e13 : wnD [(w1, n)] = .lst [.tup [.str (txt w1), .int n]] := rfl
        have e14 : D.lst ([v1].map frD) = .lst [frD v1] := rfl
        rw [e13, e14]
        generalize ((n * N ^ (dp - 1) : Nat) : Int) = W at *
        generalize T.d = td at *
        generalize D.tup [.str (txt w1), .int n] = t1
        generalize frD v1 = f1
        simp [lE, sl37]
      refine seq_to (ρ' := lE ns s4 N ft dp L n T.d (some (.frz (.int ((n * N ^ (dp - 1) : Nat) : Int)))) none (sl37 false (wnD [(w1, n)])) (sl37 false (.lst ([v1].map frD))) (some (.frz (.bl due))) (some (.frz (.bl false))) none none none) ?_ t
      generalize ((n * N ^ (dp - 1) : Nat) : Int) = W at *
      generalize T.d = td at *
      generalize wnD [(w1, n)] = wd
      generalize D.lst ([v1].map frD) = V
      simp [lE, sl37]
    · have skip : ∀ R : Env → Out, sSeq (sIfM (mTest (mOp dEq (mIO 0 1 F__law_draw (mAP [] (aCons (eC (.int 2)) aNil))) (mP [] (eC (.int 1)))))
(sSeq (sAsg [10] (eSl (eVar 10) pNo (pYes (eC (.int 1)))) (tgN 10))
(sAsg [11] (eSl (eVar 11) pNo (pYes (eC (.int 1)))) (tgN 11)))
sPass) R (lE ns s3 N ft dp L n T.d (some (.frz (.int ((n * N ^ (dp - 1) : Nat) : Int)))) none (sl37 true (wnD [(w1, n), (w2, 0)])) (sl37 true (.lst ([v1, (0, 1)].map frD))) (some (.frz (.bl due))) none none none none) = R (lE ns s4 N ft dp L n T.d (some (.frz (.int ((n * N ^ (dp - 1) : Nat) : Int)))) none (sl37 true (wnD [(w1, n), (w2, 0)])) (sl37 true (.lst ([v1, (0, 1)].map frD))) (some (.frz (.bl due))) none none none none) := by
        intro R
        refine seq_to ?_ rfl
        generalize ((n * N ^ (dp - 1) : Nat) : Int) = W at *
        generalize T.d = td at *
        generalize wnD [(w1, n), (w2, 0)] = wd
        generalize D.lst ([v1, (0, 1)].map frD) = V
        simp [lE, sl37, eB, kb]
      rw [skip]
      have tw : ∀ R : Env → Out, sSeq (sAsgM (mAndV (mP [10] (eOp dGt (eCall dLen (aCons (eVar 10) aNil)) (eC (.int 1)))) (mOp dEq (mIO 0 1 F__law_draw (mAP [] (aCons (eC (.int 3)) aNil))) (mP [] (eC (.int 1))))) (tgN 13)) R (lE ns s4 N ft dp L n T.d (some (.frz (.int ((n * N ^ (dp - 1) : Nat) : Int)))) none (sl37 true (wnD [(w1, n), (w2, 0)])) (sl37 true (.lst ([v1, (0, 1)].map frD))) (some (.frz (.bl due))) none none none none) =
          R (lE ns s5 N ft dp L n T.d (some (.frz (.int ((n * N ^ (dp - 1) : Nat) : Int)))) none (sl37 true (wnD [(w1, n), (w2, 0)])) (sl37 true (.lst ([v1, (0, 1)].map frD))) (some (.frz (.bl due))) (some (.frz (.bl (decide (kC = 1))))) none none none) := by
        intro R
        refine seq_to ?_ rfl
        rw [e11, e12]
        generalize ((n * N ^ (dp - 1) : Nat) : Int) = W at *
        generalize T.d = td at *
        generalize D.tup [.str (txt w1), .int n] = t1
        generalize D.tup [.str (txt w2), .int 0] = t2
        generalize frD v1 = f1
        generalize frD (0, 1) = f2
        simp [lE, sl37, eC']
      rw [tw]
      by_cases kc : kC = 1
      · obtain ⟨ρ', t⟩ := T0 true [(w1, n), (w2, n)] [v1, (n * dp, 1)] true A3 (fun _ z => by cases z) s5
        refine ⟨ρ', ?_⟩
        rw [decide_eq_true kc]
        refine seq_to (ρ' := lE ns s5 N ft dp L n T.d (some (.frz (.int ((n * N ^ (dp - 1) : Nat) : Int)))) none (sl37 true (wnD [(w1, n), (w2, n)])) (sl37 true (.lst ([v1, (n * dp, 1)].map frD))) (some (.frz (.bl due))) (some (.frz (.bl true))) none none none) ?_ t
        rw [e11, e12]
        have e13 : wnD [(w1, n), (w2, n)] = .lst [.tup [.str (txt w1), .int n], .tup [.str (txt w2), .int n]] := rfl
        have e14 : D.lst ([v1, (n * dp, 1)].map frD) = .lst [frD v1, .tup [.int ((n * dp : Nat) : Int), .int 1]] := rfl
        rw [e13, e14, cast]
        generalize ((n * N ^ (dp - 1) : Nat) : Int) = W at *
        generalize T.d = td at *
        generalize D.tup [.str (txt w1), .int n] = t1
        generalize D.tup [.str (txt w2), .int 0] = t2
        generalize frD v1 = f1
        generalize frD (0, 1) = f2
        simp [lE, sl37, o2, cm]
      · obtain ⟨ρ', t⟩ := T0 true [(w1, n), (w2, 0)] [v1, (0, 1)] false A2 (fun _ _ => A2r) s5
        refine ⟨ρ', ?_⟩
        rw [decide_eq_false kc]
        refine seq_to (ρ' := lE ns s5 N ft dp L n T.d (some (.frz (.int ((n * N ^ (dp - 1) : Nat) : Int)))) none (sl37 true (wnD [(w1, n), (w2, 0)])) (sl37 true (.lst ([v1, (0, 1)].map frD))) (some (.frz (.bl due))) (some (.frz (.bl false))) none none none) ?_ t
        generalize ((n * N ^ (dp - 1) : Nat) : Int) = W at *
        generalize T.d = td at *
        generalize wnD [(w1, n), (w2, 0)] = wd
        generalize D.lst ([v1, (0, 1)].map frD) = V
        simp [lE, sl37]
  obtain ⟨ρ', e⟩ := fin
  rw [e]
  rfl
end Du

namespace Dear
open PySem PySem.Spec PyProof.Rows L2
/-- law's: a list of at most 63 ints is handed in, True comes out -/
def spLaw (K : PySem.W.Frag) : Sp := fun vs H Q _ => ∃ (a : Addr) (ns : List Int), vs = [.ref a] ∧ SqL K H a (ns.map V.int) ∧ ns.length ≤ 63 ∧ ∀ H', Q (.bl true) H'
end Dear

namespace Dear
open PySem PySem.Spec PyProof.Rows L2
theorem ok_law {P : Program} {w : World} {K : PySem.W.Frag} {mg : Str → Option Value} {base : Heap} (T : Txt K mg) {f : Addr} {fd : FuncData} (F : L2.Fun K "law" "law" s_law f fd) : FnOk P w K mg base CX0 20 f fd ["_law_script"] (spLaw K) := (Du.law_of (Du.ok_law T F) Du.law_e).mono (by decide)
end Dear

namespace Dear
open PySem PySem.Spec PyProof.Rows L2
theorem walk {l : PySem.W.OpenLaw} {q : Program} {loose : List Str} {XP : (Str → Option Value) → Heap → Prop} {YP : World → Heap → Prop} {d : DefRec} {K : Params → PySem.W.Frag} (hn : l.most = some 63) (hdf : d.params.defaults = [])
    (hY : ∀ (w : World) (h : Heap), YP w h → (K w.params).In h)
    (F : ∀ (w : World) (mg : Str → Option Value) (fa : Addr) (h : Heap), (K w.params).In h → h.Ns mainGlobals mg → mg d.name = some (.ref fa) →
      ∃ fd : FuncData, (∀ (s : Shared) (u : Value), BindsTo s fd ⟨[u], []⟩ [("_law_script", u)]) ∧ ∀ base : Heap, (K w.params).In base → base.Ns mainGlobals mg → FnOk l.prog w (K w.params) mg base CX0 20 fa fd ["_law_script"] (spLaw (K w.params))) :
    PySem.W.WalkO q loose XP YP l.row.toRowW d [] (fun f vs => PySem.call f vs) :=
  L2.walk_of (n := 63) (k := 20) (x := "_law_script") (CX := fun _ => CX0) (sp := fun w => spLaw (K w.params)) hn (by decide) hdf ⟨rfl, by decide, by decide⟩ hY F (fun _ _ a ns hl _ hS => ⟨a, ns, rfl, hS, hl, fun _ => rfl⟩) fun _ _ _ _ _ z => z
theorem fin {l : PySem.W.OpenLaw} {w : World} {K : PySem.W.Frag} {h : Heap} {mg : Str → Option Value} {fa : Addr} (X : K.In h) (G : h.Ns mainGlobals mg) (hfa : mg "law" = some (.ref fa)) (T : Txt K mg) :
    ∃ fd : FuncData, (∀ (s : Shared) (v : Value), BindsTo s fd ⟨[v], []⟩ [("_law_script", v)]) ∧ ∀ base : Heap, K.In base → base.Ns mainGlobals mg → FnOk l.prog w K mg base CX0 20 fa fd ["_law_script"] (spLaw K) := by
  obtain ⟨f, fd, hm, F, hb⟩ := id T.f_law
  have e := hfa.symm.trans hm
  cases e
  refine ⟨fd, fun s v => ?_, fun base _ _ => (ok_law T F).mono (by decide)⟩
  obtain ⟨oc, od, kV, doc, pm, an, cdv, ct, osl, rfl, lk, hcd⟩ := F.ex
  exact .of_eq rfl
end Dear

open PySem PySem.W PyProof.Rows
set_option maxRecDepth 100000 in
set_option maxHeartbeats 0 in
theorem PySem.Challenge.cw_dearsigns_k37_many_texts_holds : PySem.Challenge.rw_dearsigns_k37_many_texts.Holds := by
  w_on; o_law; k_head; (case hw => w_witness2)
  k_fill
  refine Dear.walk (l := PySem.Challenge.rw_dearsigns_k37_many_texts) rfl rfl (fun w h Y => PySem.W.kIn_of Y) ?F
  case F =>
    intro w mg fa h KX G hmg
    refine Dear.fin KX G hmg ?T
    case T =>
      refine' Dear.txt_mk KX G ?g_DearError ?i_DearError ?t_DearError ?g_NoTongue ?i_NoTongue ?t_NoTongue ?g_NoWants ?i_NoWants ?t_NoWants ?b_DearError ?a1 ?l1 ?c1 ?k1 ?a2 ?l2 ?c2 ?k2 ?a3 ?l3 ?c3 ?k3 ?a4 ?l4 ?c4 ?k4 ?a5 ?l5 ?c5 ?k5 ?a6 ?l6 ?c6 ?k6 ?a7 ?l7 ?c7 ?k7 ?a8 ?l8 ?c8 ?k8 ?a9 ?l9 ?c9 ?k9 ?a10 ?l10 ?c10 ?k10 ?a11 ?l11 ?c11 ?k11 ?a12 ?l12 ?c12 ?k12 ?a13 ?l13 ?c13 ?k13 ?a14 ?l14 ?c14 ?k14 ?a15 ?l15 ?c15 ?k15 ?a16 ?l16 ?c16 ?k16 ?a17 ?l17 ?c17 ?k17 ?a18 ?l18 ?c18 ?k18 ?a19 ?l19 ?c19 ?k19 ?a20 ?l20 ?c20 ?k20 ?a21 ?l21 ?c21 ?k21 ?a22 ?l22 ?c22 ?k22 ?a23 ?l23 ?c23 ?k23 ?a24 ?l24 ?c24 ?k24 ?a25 ?l25 ?c25 ?k25 ?a26 ?l26 ?c26 ?k26 ?a27 ?l27 ?c27 ?k27 ?a28 ?l28 ?c28 ?k28 ?a29 ?l29 ?c29 ?k29 ?a30 ?l30 ?c30 ?k30 ?a31 ?l31 ?c31 ?k31 ?a32 ?l32 ?c32 ?k32 ?a33 ?l33 ?c33 ?k33 ?a34 ?l34 ?c34 ?k34 ?a35 ?l35 ?c35 ?k35 ?a36 ?a37 ?a38 ?a39 ?a40 ?a41 ?a42 ?a43 ?a44 ?a45 ?d45 ?a46 ?d46 ?a47 ?a48 ?a49 ?a50 ?a51 ?a52 ?a53 ?a54 ?a55 ?a56 ?a57 ?a58 ?a59 ?a60 ?a61
      (case g_DearError => k_is); (case i_DearError => k_is); (case t_DearError => k_is); (case g_NoTongue => k_is); (case i_NoTongue => k_is); (case t_NoTongue => k_is); (case g_NoWants => k_is); (case i_NoWants => k_is)
      (case t_NoWants => k_is); (case b_DearError => k_is); (case a1 => k_is); (case l1 => k_is); (case c1 => k_is); (case k1 => k_is); (case a2 => k_is); (case l2 => k_is)
      (case c2 => k_is); (case k2 => k_is); (case a3 => k_is); (case l3 => k_is); (case c3 => k_is); (case k3 => k_is); (case a4 => k_is); (case l4 => k_is)
      (case c4 => k_is); (case k4 => k_is); (case a5 => k_is); (case l5 => k_is); (case c5 => k_is); (case k5 => k_is); (case a6 => k_is); (case l6 => k_is)
      (case c6 => k_is); (case k6 => k_is); (case a7 => k_is); (case l7 => k_is); (case c7 => k_is); (case k7 => k_is); (case a8 => k_is); (case l8 => k_is)
      (case c8 => k_is); (case k8 => k_is); (case a9 => k_is); (case l9 => k_is); (case c9 => k_is); (case k9 => k_is); (case a10 => k_is); (case l10 => k_is)
      (case c10 => k_is); (case k10 => k_is); (case a11 => k_is); (case l11 => k_is); (case c11 => k_is); (case k11 => k_is); (case a12 => k_is); (case l12 => k_is)
      (case c12 => k_is); (case k12 => k_is); (case a13 => k_is); (case l13 => k_is); (case c13 => k_is); (case k13 => k_is); (case a14 => k_is); (case l14 => k_is)
      (case c14 => k_is); (case k14 => k_is); (case a15 => k_is); (case l15 => k_is); (case c15 => k_is); (case k15 => k_is); (case a16 => k_is); (case l16 => k_is)
      (case c16 => k_is); (case k16 => k_is); (case a17 => k_is); (case l17 => k_is); (case c17 => k_is); (case k17 => k_is); (case a18 => k_is); (case l18 => k_is)
      (case c18 => k_is); (case k18 => k_is); (case a19 => k_is); (case l19 => k_is); (case c19 => k_is); (case k19 => k_is); (case a20 => k_is); (case l20 => k_is)
      (case c20 => k_is); (case k20 => k_is); (case a21 => k_is); (case l21 => k_is); (case c21 => k_is); (case k21 => k_is); (case a22 => k_is); (case l22 => k_is)
      (case c22 => k_is); (case k22 => k_is); (case a23 => k_is); (case l23 => k_is); (case c23 => k_is); (case k23 => k_is); (case a24 => k_is); (case l24 => k_is)
      (case c24 => k_is); (case k24 => k_is); (case a25 => k_is); (case l25 => k_is); (case c25 => k_is); (case k25 => k_is); (case a26 => k_is); (case l26 => k_is)
      (case c26 => k_is); (case k26 => k_is); (case a27 => k_is); (case l27 => k_is); (case c27 => k_is); (case k27 => k_is); (case a28 => k_is); (case l28 => k_is)
      (case c28 => k_is); (case k28 => k_is); (case a29 => k_is); (case l29 => k_is); (case c29 => k_is); (case k29 => k_is); (case a30 => k_is); (case l30 => k_is)
      (case c30 => k_is); (case k30 => k_is); (case a31 => k_is); (case l31 => k_is); (case c31 => k_is); (case k31 => k_is); (case a32 => k_is); (case l32 => k_is)
      (case c32 => k_is); (case k32 => k_is); (case a33 => k_is); (case l33 => k_is); (case c33 => k_is); (case k33 => k_is); (case a34 => k_is); (case l34 => k_is)
      (case c34 => k_is); (case k34 => k_is); (case a35 => k_is); (case l35 => k_is); (case c35 => k_is); (case k35 => k_is); (case a36 => k_is); (case a37 => k_is)
      (case a38 => k_is); (case a39 => k_is); (case a40 => k_is); (case a41 => k_is); (case a42 => k_is); (case a43 => k_is); (case a44 => k_is); (case a45 => k_is)
      (case d45 => k_is); (case a46 => k_is); (case d46 => k_is); (case a47 => k_is); (case a48 => k_is); (case a49 => k_is); (case a50 => k_is); (case a51 => k_is)
      (case a52 => k_is); (case a53 => k_is); (case a54 => k_is); (case a55 => k_is); (case a56 => k_is); (case a57 => k_is); (case a58 => k_is); (case a59 => k_is)
      (case a60 => k_is); (case a61 => k_is)
#print axioms PySem.Challenge.cw_dearsigns_k37_many_texts_holds

