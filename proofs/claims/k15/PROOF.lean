import PyProof.Rows.All
import Wide.All
import OpenK.AllK
import Wide.FinOn
import HandS.ForMost
import HandS.Wide
import HandS.IsInst
import HandS.Flow
import HandS.Walk
import HandS.Strs
import HandS.Style
import HandS.Exc
import HandS.Codes
import HandS.ForExc
import HandS.ExcIs
import HandS.Defaults
import HandS.ExcInit
import HandS.FStr
import HandS.ExcField
import HandS.TryOnly
import HandS.Conv
import HandS.TupAny
import HandS.Zip
import HandS.Deep
import HandS.TupLen
import HandS.SortKw
import HandS.RevRange
import HandS.ListItems
import HandS.SetFor
import HandS.More
import KE.KIntText
import KE.DataCmp
import KE.GoesZip
import KE.KDictZip
import Flt.Len
import PySem.Challenge.RW_dearsigns_k15_trees_of_books
import HandS.DictComp
set_option Elab.async false
set_option linter.all false
set_option maxRecDepth 100000
set_option maxHeartbeats 4000000

namespace Dear
open PySem PySem.Spec PyProof.Rows L2
/-! ### a def of the text, and a def with its promise -/
def Df (K : PySem.W.Frag) (mg : Str → Option Value) (x : Str) (st : Stmt) (ps : List Str) : Prop :=
  ∃ (f : Addr) (fd : FuncData), mg x = some (.ref f) ∧ Fun K x x st f fd ∧ Binds K fd ps []
/-- a def that the text calls by another name -/
def DfA (K : PySem.W.Frag) (mg : Str → Option Value) (y x : Str) (st : Stmt) (ps : List Str) : Prop :=
  ∃ (f : Addr) (fd : FuncData), mg y = some (.ref f) ∧ Fun K x x st f fd ∧ Binds K fd ps []
def OkF (P : Program) (w : World) (K : PySem.W.Frag) (mg : Str → Option Value) (base : Heap) (CX : CXT) (k : Nat) (x : Str) (ps : List Str) (sp : Sp) : Prop :=
  ∃ (f : Addr) (fd : FuncData), mg x = some (.ref f) ∧ PySem.W.keepIn K (.ref f) = true ∧ Binds K fd ps [] ∧ FnOk P w K mg base CX k f fd ps sp
section
variable {P : Program} {w : World} {K : PySem.W.Frag} {mg : Str → Option Value} {base : Heap}
theorem DfA.ok {y x : Str} {st : Stmt} {N ps : List Str} {k : Nat} {sp : Sp} (D : DfA K mg y x st ps) (S : FnScope N ps (defScope st)) (len : ∀ vs H Q E, sp vs H Q E → vs.length = ps.length)
    (hbody : ∀ (f : Addr) (cdv : Value) (A : Around) (outer : List Env) (s : Shared) (H : Hp) (vs : List V) (Q : VK) (E : XK), Room k (A.deeper (envOfC x (defScope st) s.heap.objs.size f cdv)) → sp vs H Q E →
      ∃ t, PSs (cxOf CX0 P w K mg base N x (defScope st) f cdv A outer s H E).nox (defBody st) t ∧ t { nx := fun _ H' => Q .non H', rt := Q } (start N vs) H) : OkF P w K mg base CX0 (k + 1) y ps sp := by
  obtain ⟨f, fd, hm, F, hb⟩ := D
  exact ⟨f, fd, hm, F.kp, hb, F.ok S len (hbody f)⟩
theorem Df.ok {x : Str} {st : Stmt} {N ps : List Str} {k : Nat} {sp : Sp} (D : Df K mg x st ps) (S : FnScope N ps (defScope st)) (len : ∀ vs H Q E, sp vs H Q E → vs.length = ps.length)
    (hbody : ∀ (f : Addr) (cdv : Value) (A : Around) (outer : List Env) (s : Shared) (H : Hp) (vs : List V) (Q : VK) (E : XK), Room k (A.deeper (envOfC x (defScope st) s.heap.objs.size f cdv)) → sp vs H Q E →
      ∃ t, PSs (cxOf CX0 P w K mg base N x (defScope st) f cdv A outer s H E).nox (defBody st) t ∧ t { nx := fun _ H' => Q .non H', rt := Q } (start N vs) H) : OkF P w K mg base CX0 (k + 1) x ps sp := by
  obtain ⟨f, fd, hm, F, hb⟩ := D
  exact ⟨f, fd, hm, F.kp, hb, F.ok S len (hbody f)⟩
end
section
variable {X : Cx}
theorem pe_c {k k' : Nat} {x : Str} {ps : List Str} {sp : Sp} {e : Expr} {es : List Expr} {t : TA} {p pos : Pos} (O : OkF X.prog X.w X.K X.mg X.base CX0 k x ps sp) (hr : Room k' X.A) (ha : PA X (e :: es) t) (hk : k ≤ k' := by decide) (hg : Gl X x := by rfl)
    (hdb : (x == ("__debug__" : Str)) = false := by decide) (he : starEach (e :: es) X.env = (false, eval e X.env) :: starEach es X.env := by rfl) (hpl : (backTo pos (starEach es X.env)).any (·.1) = false := by rfl) :
    PE X (.Call (.Name x p) (e :: es) [] pos) (tCall sp [] E0 t) := by
  obtain ⟨f, fd, hm, hkp, hb, F⟩ := O
  exact pe_call F (hr.mono hk) hg hm hkp hb .nil pass0 ha hdb he hpl
theorem pe_gi {x : Str} {i : Int} {pos : Pos} (h : ∃ t, X.mg x = some (.int i t)) (hg : Gl X x := by rfl) (hd : (x == ("__debug__" : Str)) = false := by decide) : PE X (.Name x pos) (tC (.int i)) := by
  obtain ⟨t, h⟩ := h
  exact pe_glob hg h ⟨_, rfl⟩ hd
theorem pe_gs {x : Str} {z : Str} {pos : Pos} (h : ∃ t, X.mg x = some (.str z t)) (hg : Gl X x := by rfl) (hd : (x == ("__debug__" : Str)) = false := by decide) : PE X (.Name x pos) (tC (.str z)) := by
  obtain ⟨t, h⟩ := h
  exact pe_glob hg h ⟨_, rfl⟩ hd
end
/-! ### the rules with the written part K named -/
section
variable {X : Cx} (K : PySem.W.Frag)
theorem ix_list_k (h : X.K = K := by rfl) : IxR X (rIxL K) := h ▸ ix_list
theorem ix_tup_k (h : X.K = K := by rfl) : IxR X (rIxT K) := h ▸ ix_tup
theorem sl_list_k (h : X.K = K := by rfl) : SlR X (rSlL K) := h ▸ sl_list
theorem sl_tup_k (h : X.K = K := by rfl) : SlR X (rSlT K) := h ▸ sl_tup
theorem op_in_seq_k (h : X.K = K := by rfl) : OpR X (compareOp .In) (rIn K false) := h ▸ op_in_seq
theorem op_notIn_seq_k (h : X.K = K := by rfl) : OpR X (compareOp .NotIn) (rIn K true) := h ▸ op_notIn_seq
def rLen : List V → Hp → VK → Prop := fun xs H Q => ∃ p ys, xs = [.ref p] ∧ (SqL K H p ys ∨ SqT K H p ys) ∧ Q (.int ys.length) H
theorem call_len_seq_k (h : X.K = K := by rfl) : CallR X (.builtin "len") (rLen K) := h ▸ call_len_seq
def rListOf : List V → Hp → VK → Prop := fun xs H Q => ∃ p ys, xs = [.ref p] ∧ (SqL K H p ys ∨ SqT K H p ys) ∧ ∀ l, H l = none → Q (.ref l) (upd H l (.lst ys))
theorem call_list_of_k (h : X.K = K := by rfl) : CallR X (.type "list") (rListOf K) := h ▸ call_list_of
def rTupOf : List V → Hp → VK → Prop := fun xs H Q => ∃ p ys, xs = [.ref p] ∧ ((SqL K H p ys ∧ ∀ l, H l = none → Q (.ref l) (upd H l (.tup ys))) ∨ (SqT K H p ys ∧ Q (.ref p) H))
theorem call_tuple_of_k (h : X.K = K := by rfl) : CallR X (.type "tuple") (rTupOf K) := h ▸ call_tuple_of
theorem cr_sum_k (hc : X.calm = true) (h : X.K = K := by rfl) : CallR X (.builtin "sum") (rSum K) := h ▸ cr_sum hc
theorem cr_max_k (hc : X.calm = true) (h : X.K = K := by rfl) : CallR X (.builtin "max") (rMax K) := h ▸ cr_max hc
theorem cr_min_k (hc : X.calm = true) (h : X.K = K := by rfl) : CallR X (.builtin "min") (rMin K) := h ▸ cr_min hc
theorem cr_any_k (hc : X.calm = true) (h : X.K = K := by rfl) : CallR X (.builtin "any") (rAny K) := h ▸ cr_any hc
theorem cr_all_k (hc : X.calm = true) (h : X.K = K := by rfl) : CallR X (.builtin "all") (rAll K) := h ▸ cr_all hc
theorem cr_sorted_k (h : X.K = K := by rfl) : CallR X (.builtin "sorted") (rSorted K) := h ▸ cr_sorted
theorem mt_index_k (h : X.K = K := by rfl) : MtR X "list.index" (rIndex K) := h ▸ mt_index
theorem op_eqD_k (hu : X.A.units + 64 < cLine) (h : X.K = K := by rfl) : OpR X (compareOp .Eq) (rEqD K) := h ▸ op_eqD hu
theorem op_neD_k (hu : X.A.units + 64 < cLine) (h : X.K = K := by rfl) : OpR X (compareOp .NotEq) (rNeD K) := h ▸ op_neD hu
theorem call_isi_k (h : X.K = K := by rfl) : CallR X (.builtin "isinstance") (rIsi K) := h ▸ call_isi
theorem call_isiT_k (h : X.K = K := by rfl) : CallR X (.builtin "isinstance") (rIsiT K) := h ▸ call_isiT
theorem op_catT_k (h : X.K = K := by rfl) : OpR X (binaryOp .Add) (rCatT K) := h ▸ op_catT
theorem pi_list_k {tg l : Expr} {tl : TE} (hl : PE X l tl) (h : X.K = K := by rfl) : PI X tg l (iList K tl) := h ▸ pi_list hl
theorem pi_tup_k {tg l : Expr} {tl : TE} (hl : PE X l tl) (h : X.K = K := by rfl) : PI X tg l (iTup K tl) := h ▸ pi_tup hl
theorem pe_revL_k {e : Expr} {te : TE} {k : Nat} {p1 p2 p3 pos : Pos} (he : PE X e te) (h : X.K = K := by rfl) : PE X (.Subscript e (.Slice none none (some (.UnaryOp .USub (.Constant (.int 1) k p1) p2)) p3) pos) (tRevL K te) := h ▸ pe_revL he
theorem pg_tup_k {es : List Expr} {k : Nat} {t : TGs} {n : Nat} {pos : Pos} (hc : X.calm = true) (hg : PGs X es t) (h : X.K = K := by rfl)
    (hn : (assignEach es X.env).length = n := by rfl) (hst : (assignEach es X.env).findIdx? (·.1) = none := by rfl) : PG X (.Tuple es k pos) (gTup K n t) := h ▸ pg_tup hc hg hn hst
def rDictP : List V → Hp → VK → Prop := fun xs H Q => ∃ (a : Addr) (ps : List Addr) (kvs : List (Key × V)), xs = [.ref a] ∧ SqL K H a (ps.map V.ref) ∧ Paired (fun p kv => SqT K H p [kV kv.1, kv.2]) ps kvs ∧
    ∀ p, H p = none → Q (.ref p) (upd H p (.dK (mergeK [] kvs)))
theorem call_dictP_k (hc : X.calm = true) (h : X.K = K := by rfl) : CallR X (.type "dict") (rDictP K) := h ▸ call_dictP hc
theorem u1 {n : Nat} (h : n + 64 < cLine) : n + 1 < cLine := by omega
def rJoin : V → List V → Hp → VK → Prop := fun x xs H Q => ∃ a p, ∃ ys : List Str, x = .str a ∧ xs = [.ref p] ∧ (SqL K H p (ys.map V.str) ∨ SqT K H p (ys.map V.str)) ∧ (ys.map (·.length)).sum + ys.length * a.length ≤ 16777216 ∧ Q (.str (Txt.join a ys)) H
theorem pe_join_k {o e : Expr} {to te : TE} {apos pos : Pos} (ho : PE X o to) (he : PE X e te) (h : X.K = K := by rfl) (hs : starEach [e] X.env = [(false, eval e X.env)] := by rfl) (hbase : attributeBase o "join" X.env (eval o X.env) = eval o X.env := by rfl) (hline : (apos.endLine == pos.line) = true := by rfl) :
    PE X (.Call (.Attribute o "join" apos) [e] [] pos) (tM1 (rJoin K) to te) := h ▸ pe_join ho he hs hbase hline
end
/-! ### heaps -/
/-- all that was tracked, but for what stands at l, is as it was -/
def But (l : Addr) (H H' : Hp) : Prop := ∀ b o, H b = some o → b ≠ l → H' b = some o
theorem But.refl (l : Addr) (H : Hp) : But l H H := fun _ _ h _ => h
theorem But.trans {l : Addr} {H H1 H2 : Hp} (a : But l H H1) (b : But l H1 H2) : But l H H2 := fun c o h n => b c o (a c o h n) n
theorem But.of {l : Addr} {H H1 : Hp} (a : Same H H1) : But l H H1 := fun c o h _ => a c o h
theorem But.upd {l : Addr} {H : Hp} {o : HO} : But l H (upd H l o) := fun b _ h n => by rw [upd_ne n]; exact h
theorem Same.upd {H : Hp} {l : Addr} {o : HO} (h : H l = none) : Same H (upd H l o) := fun b u e => by
  rw [upd_ne (ne_of_none e h)]
  exact e
theorem But.new {l : Addr} {H H1 : Hp} {p : Addr} {o : HO} (a : But l H H1) (h : H1 p = none) : But l H (L2.upd H1 p o) := a.trans (.of (Same.upd h))
theorem Same.new {H H1 : Hp} {p : Addr} {o : HO} (a : Same H H1) (h : H1 p = none) : Same H (L2.upd H1 p o) := a.trans (Same.upd h)
/-- the ends of an if -/
theorem itb {b : Bool} {A B : Prop} (h1 : b = true → A) (h2 : b = false → B) : if b = true then A else B := by
  cases b with
  | true => exact iteT (h1 rfl)
  | false => exact iteF (h2 rfl)
theorem itd {c : Prop} [Decidable c] {A B : Prop} (h1 : c → A) (h2 : ¬ c → B) : if decide c = true then A else B := itb (fun h => h1 (of_decide_eq_true h)) fun h => h2 (of_decide_eq_false h)
theorem itnd {c : Prop} [Decidable c] {A B : Prop} (h1 : ¬ c → A) (h2 : c → B) : if (!decide c) = true then A else B := itb (fun h => h1 (by simpa using h)) fun h => h2 (by simpa using h)
/-! ### readings, step by step -/
section
variable {σ : L2.St} {H : Hp} {D : Ends} {t1 t2 : TS} {te : TE} {i : Nat} {c : TT}
theorem s_seq (h : t1 { D with nx := t2 D } σ H) : tSeq t1 t2 D σ H := h
theorem s_set (h : te σ H fun v H' => D.nx (σ.set i (some v)) H') : tAsg te (gName i) D σ H := h
theorem s_ret (h : te σ H D.rt) : tRet te D σ H := h
theorem s_if (h : c σ H fun b H' => if b = true then t1 D σ H' else t2 D σ H') : tIfS c t1 t2 D σ H := h
theorem s_op {r : R2} {ta tb : TE} {Q : VK} (h : ta σ H fun x H1 => tb σ H1 fun y H2 => r x y H2 Q) : tOp r ta tb σ H Q := h
theorem s_nx (h : D.nx σ H) : tNext D σ H := h
end
end Dear

namespace Dear
open PySem PySem.Spec PyProof.Rows L2
/-! ### an exception that is caught, kept in a name, and asked behind the suite -/
/-- a kept exception at a: its class, its own dict -/
def ExK (cls : Value) (d : Option Addr) (a : Addr) : HO := .ext fun h => ∃ (oe : Obj) (vs : Array Value), h.get? a = some oe ∧ Zc cls d oe ∧ oe.data = .fields vs
theorem exK_ok {P : Program} {w : World} {H : Hp} {h : Heap} {a : Addr} {cls : Value} {d : Option Addr} {oe : Obj} {vs : Array Value} (e : h.get? a = some oe) (z : Zc cls d oe) (dt : oe.data = .fields vs) : ObjOk P w H h a (ExK cls d a) :=
  ⟨⟨oe, vs, e, z, dt⟩, ⟨oe, e⟩, fun _ _ ⟨o, v, q, r⟩ k => ⟨o, v, k o q, r⟩⟩
section
variable {X : Cx} {pins : List (Addr × Obj)} {σ : L2.St} {H : Hp} {s : Shared}
/-- an object that stands there untracked, new since the entry, becomes tracked -/
theorem track (I : Inv X pins σ H s) {a : Addr} {o : HO} {oe : Obj} (he : s.heap.get? a = some oe) (na : H a = none) (n0 : X.s_0.heap.get? a = none) (nL : a ≠ X.env.locals) (nC : ∀ v, oe.data ≠ .cell v)
    (nP : ∀ p ∈ X.pn ++ pins, p.1 ≠ a) (new : ObjOk X.prog X.w (upd H a o) s.heap a o) : Inv X pins σ (upd H a o) s where
  ok := I.ok
  os := I.os
  bare := I.bare
  base := {
    keep := I.base.keep
    slot := I.base.slot
    free := fun b u q n hx => by
      rw [upd_ne fun z => by rw [z, n0] at q; cases q]
      exact I.base.free b u q n hx
    there := I.base.there
    tups := fun b xs q => by
      have z := I.base.tups b xs q
      rw [upd_ne (ne_of_none z na)]
      exact z
    frzs := fun b u v q => by
      have z := I.base.frzs b u v q
      rw [upd_ne (ne_of_none z na)]
      exact z
    tbls := fun b ps q => by
      obtain ⟨m, z⟩ := I.base.tbls b ps q
      exact ⟨m, by rw [upd_ne (ne_of_none z na)]; exact z⟩ }
  loc := I.loc
  cell := I.cell
  free := by rw [upd_ne (Ne.symm nL)]; exact I.free
  freeC := fun x c e => by
    have ne : c ≠ a := fun z => by
      obtain ⟨v, ob, q, dq⟩ := I.cell x c e
      rw [z, he] at q
      cases q
      exact nC v dq
    rw [upd_ne ne]
    exact I.freeC x c e
  pin := fun p hp => by
    obtain ⟨p1, p2, p3⟩ := I.pin p hp
    exact ⟨p1, by rw [upd_ne (nP p hp)]; exact p2, p3⟩
  hok := fun b u e => by
    by_cases hb : b = a
    · subst hb
      rw [upd_same] at e
      cases e
      exact new
    · rw [upd_ne hb] at e
      exact (I.hok b u e).stay (fun _ _ _ q => q) (fun c q => by rw [upd_ne (ne_of_none q na)]; exact q) fun c xs q => by rw [upd_ne (ne_of_none q na)]; exact q
  len := I.len
end
/-- what «except x as n: y = n» wishes of an exception of the body: n's slot is i, y's is j; behind it the exception stands tracked -/
def wKept (K : PySem.W.Frag) (c : Value) (i j : Nat) (Wout : WX) (D : Ends) : WX := fun cls d σ H =>
  ∃ b, PySem.W.exmOne K cls c = some b ∧ (b = true → ∀ a, H a = none → D.nx (((σ.set i (some (.ref a))).set j (some (.ref a))).set i none) (upd H a (ExK cls d a))) ∧ (b = false → Wout cls d σ H)
section
variable {X : Cx} {x n y : Str} {c : Value} {i j : Nat} {body : List Stmt} {np pos pos2 p3 p4 p5 : Pos} {tb : WX → TS} {Wout : WX}
theorem ps_try_kept (hs : X.stack = X.env :: X.outer) (hf : X.env.frame = some X.env.locals) (hex : X.ex = []) (hN : X.N.Nodup) (hi : X.N[i]? = some n) (hj : X.N[j]? = some y) (hij : i ≠ j) (hln : X.env.kindOf n = some .local) (hly : X.env.kindOf y = some .local) (hc : Names X x c) (tk : Takes X Wout)
    (hb : ∀ (W : WX) (pn : List (Addr × Obj)) (xe : Value → Shared → Prop), Takes (X.tr pn xe) W → PassesOwn (model X.prog X.w) X.A X.env xe → PSs (X.tr pn xe) body (tb W))
    (hdn : (n == ("__debug__" : Str)) = false := by decide) (hcd : (n == ("__classdict__" : Str)) = false := by decide) :
    PS X (.Try body [.ExceptHandler (some (.Name x np)) (some n) [.Assign [.Name y p3] (.Name n p4) p5] pos2] [] [] pos) (fun D σ H => tb (wKept X.K c i j Wout D) D σ H) := by
  refine ⟨fun pins s σ H D I h => ?_⟩
  have ok := I.ok
  have frames : X.A.frames = some (X.env :: X.outer) := by rw [ok.frames, hs]
  refine wpAny_Try_except (wpAny_mono ((hb (wKept X.K c i j Wout D) (X.pn ++ pins) _ (fun u s1 air => ?_) PassesOwn.looking).run [] s σ H D (I.toTry _) h) (fun f s1 done => ?_) fun _ _ z => z)
  · obtain ⟨a, B, sI, pins', σ1, H1, cls, d, rfl, J1, nb, up, sky, na, os, ag, b, hm, yes, no⟩ := air
    have J : Inv X pins σ1 H1 sI := J1.ofTry ok
    rw [show X.stack = X.env :: X.outer from hs] at sky
    refine Sky.land Zc.steady frames hf sky fun h3 fl3 up3 => ?_
    have J3 : Inv X pins σ1 H1 { s1 with heap := h3 } := J.landed nb fl3.1 (up.trans up3) os ag
    obtain ⟨oe3, vs3, he3, hz3, hd3⟩ := fl3.there
    have nfr : a ∉ frs (X.env :: X.outer) := fun hm => by
      obtain ⟨_, o', e', hnf⟩ := fl3.2.2.1.mem hm
      rw [he3] at e'
      cases e'
      exact hnf _ hd3
    have nL : a ≠ X.env.locals := fun z => nfr (List.mem_filterMap.mpr ⟨X.env, List.mem_cons_self, by rw [hf, z]⟩)
    have nF : a ∉ X.fs := fun hm => by
      obtain ⟨e, he, q⟩ := List.mem_filterMap.mp hm
      exact nfr (List.mem_filterMap.mpr ⟨e, List.mem_cons_of_mem _ he, q⟩)
    -- it is new: neither there at the entry nor pinned
    have gone : ∀ o, sI.heap.get? a ≠ some o := fun o q => by
      have z := nb a o q (by rw [hs]; exact nfr)
      rw [fl3.2.1] at z
      cases z
    have n0 : X.s_0.heap.get? a = none := by
      cases q : X.s_0.heap.get? a with
      | none => rfl
      | some o =>
        obtain ⟨o', q'⟩ := J.base.there a o q (by rw [hex]; simp)
        exact absurd q' (gone o')
    have nP : ∀ p ∈ X.pn ++ pins, p.1 ≠ a := fun p hp z => gone p.2 (z ▸ (J.pin p hp).1)
    have S3 := J3.suite he3 hd3 na nL nF
    refine wpAny_handleBy_cons (codeAny_handlers_test ?_) (by intro q; cases q)
    have LT : PySem.W.Looks (model X.prog X.w) h3 (typeOf (.ref a)) cls := fun _ _ _ _ k q => wpAny_typeOf_ref (k _ _ he3) (by rw [hz3.1]; exact q)
    have LM := PySem.W.exm_one (M := model X.prog X.w) J3.kIn LT hm
    have named : ∀ {Q : Value → Shared → Prop} {E : Value → Shared → Prop}, Q c { s1 with heap := h3 } → wpAny (model X.prog X.w) (X.A.mark (some (.ref a))) (eval (.Name x np) X.env) Q E { s1 with heap := h3 } := fun {Q E} q => by
      obtain ⟨hg, hdbg, hm | ⟨hm, hv, hnn⟩⟩ := hc
      · exact ld_glob (X := X.suite a ((a, oe3) :: (X.pn ++ pins))) S3 hg hm q hdbg
      · exact ld_blt (X := X.suite a ((a, oe3) :: (X.pn ++ pins))) S3 hg hm hv q hnn hdbg
    refine named (LM.here ?_)
    cases b with
    | true =>
      refine codeAny_handlers_suite_as (HandSPX.lands_againZ fl3 fun h4 fl4 up4 => ?_)
      have J4 : Inv X pins σ1 H1 { s1 with heap := h4 } := J.landed nb fl4.1 ((up.trans up3).trans up4) os ag
      obtain ⟨oe4, vs4, he4, hz4, hd4⟩ := fl4.there
      refine store_ok (X := X.suite a ((a, oe4) :: (X.pn ++ pins))) (v := .ref a) (J4.suite he4 hd4 na nL nF) hN hi (.inl hln) rfl (fun s5 S5 => ?_) (.inr hln)
      have suite : PSs (X.suite a ((a, oe4) :: (X.pn ++ pins))) [.Assign [.Name y p3] (.Name n p4) p5] (tAsg (tVar i) (gName j)) := pss_one (ps_set hN hj (.inl hly) (pe_var hi (.inl hln) hdn hcd) (hf := .inr hly))
      have len1 : i < σ1.length := by
        rw [J.len]
        exact (List.getElem?_eq_some_iff.mp hi).1
      refine wpAny_mono (suite.run [] s5 _ H1 { nx := fun σ' H' => σ' = (σ1.set i (some (.ref a))).set j (some (.ref a)) ∧ H' = H1, rt := fun _ _ => False } S5 ⟨.ref a, by rw [List.getElem?_set_self len1], rfl, rfl⟩) (fun f s6 done => ?_) fun _ _ z => z.elim
      cases f with
      | next =>
        obtain ⟨σ6, H6, S6, rfl, rfl⟩ := done
        have he6 := (S6.pin (a, oe4) (List.mem_append_left _ List.mem_cons_self)).1
        refine gone_ok (track (S6.unsuite ok) (o := ExK cls d a) he6 na n0 nL (fun v q => by rw [hd4] at q; cases q) nP (exK_ok he6 hz4 hd4)) hN hi hln fun s7 J7 => ⟨_, _, J7, yes rfl a na⟩
      | brk =>
        obtain ⟨_, _, _, z⟩ := done
        exact z.elim
      | cont =>
        obtain ⟨_, _, _, z⟩ := done
        exact z.elim
      | ret u =>
        obtain ⟨_, _, _, _, _, z⟩ := done
        exact z.elim
    | false =>
      show wpAny _ X.A (handleBy (.ref a) X.env []) _ _ _
      refine wpAny_handleBy_nil ?_
      obtain ⟨_, _, _, oe, vs, T, _, _, he, _, hd, h1, _⟩ := id fl3
      unfold PySem.passOn
      refine wpAny_bind (wpAny_field he hd h1 ?_)
      rw [if_neg (show ¬ ((Value.ref T == Value.none) = true) from by simp)]
      have fin : wpAny (model X.prog X.w) X.A (setFlight (.ref a) X.env.frame) (fun _ s4 => wpAny (model X.prog X.w) X.A (throw (.ref a) : Sem Flow) (SP X pins D) X.xe s4) X.xe { s1 with heap := h3 } := by
        rw [hf]
        exact HandSPX.setFlight_upZ fl3 fun h4 hh4 up4 => wpAny_throw (tk _ _ ⟨a, B, sI, pins, σ1, H1, cls, d, rfl, J, nb, (up.trans up3).trans up4, .inr (.inr (by rw [hs]; exact hh4)), na, os, ag, no rfl⟩)
      first
        | exact wpAny_bind (wpAny_pure (wpAny_bind fin))
        | exact wpAny_bind fin
  · cases f with
    | next =>
      obtain ⟨σ', H', J', q⟩ := done
      exact wpAny_execs_nil ⟨σ', H', J'.ofTry ok, q⟩
    | brk =>
      obtain ⟨σ', H', J', q⟩ := done
      exact ⟨σ', H', J'.ofTry ok, q⟩
    | cont =>
      obtain ⟨σ', H', J', q⟩ := done
      exact ⟨σ', H', J'.ofTry ok, q⟩
    | ret u =>
      obtain ⟨v, σ', H', J', r, q⟩ := done
      exact ⟨v, σ', H', J'.ofTry ok, r, q⟩
end
/-! ### isinstance of a kept exception -/
/-- the object as the library's rules want it -/
theorem instAt_kept {h : Heap} {a D : Addr} {oe : Obj} {vs : Array Value} (e : h.get? a = some oe) (z : Zc (.ref D) none oe) (d : oe.data = .fields vs) : PySem.W.InstAt h a oe D none := by
  obtain ⟨oc, od, oda, osl⟩ := oe
  obtain ⟨h1, h2⟩ := z
  dsimp only at h1 h2 d
  subst h1 h2 d
  exact ⟨e, rfl, rfl, trivial⟩
def rIsX (K : PySem.W.Frag) : List V → Hp → VK → Prop := fun xs H Q => ∃ (a D : Addr) (c : V) (u : Value) (b : Bool), xs = [.ref a, c] ∧ H a = some (ExK (.ref D) none a) ∧ ExcC K D ∧ ClsV c u ∧ PySem.W.kitOne K (.ref D) u = some b ∧ Q (.bl b) H
def rIsXT (K : PySem.W.Frag) : List V → Hp → VK → Prop := fun xs H Q => ∃ (a D tp : Addr) (cs : List V) (us : List Value) (b : Bool), xs = [.ref a, .ref tp] ∧ H a = some (ExK (.ref D) none a) ∧ ExcC K D ∧ H tp = some (.tup cs) ∧ Paired ClsV cs us ∧ PySem.W.kitAny K (.ref D) us = some b ∧ Q (.bl b) H
section
variable {X : Cx} (K : PySem.W.Frag)
theorem call_isX_k (hk : X.K = K := by rfl) : CallR X (.builtin "isinstance") (rIsX K) := by
  subst hk
  intro pins s σ H xs us Q I r h
  obtain ⟨a, D, c, u, b, rfl, ha, C, k, e, q⟩ := h
  obtain ⟨u1, u2, rfl, r1, r2⟩ := vals2 r
  have e2 := k.eq r2
  subst e2
  cases r1
  obtain ⟨⟨oe, vs, he, hz, hd⟩, _⟩ := I.hok a _ ha
  exact PySem.W.kia_one (PySem.W.handS_kitx_exc C.hg C.hk C.hs C.hd C.ha C.hn C.ht C.hm) I.kIn (instAt_kept he hz hd) e (fun z => nomatch z) fun tk => ⟨.bl b, H, I.tok tk, rfl, q⟩
theorem call_isXT_k (hk : X.K = K := by rfl) : CallR X (.builtin "isinstance") (rIsXT K) := by
  subst hk
  intro pins s σ H xs us Q I r h
  obtain ⟨a, D, tp, cs, ws, b, rfl, ha, C, hT, k, e, q⟩ := h
  obtain ⟨u1, u2, rfl, r1, r2⟩ := vals2 r
  cases r1
  cases (show u2 = Value.ref tp from r2)
  obtain ⟨⟨oe, vs, he, hz, hd⟩, _⟩ := I.hok a _ ha
  obtain ⟨_, its, rv, o, h1, h2, n, h3⟩ := (show ObjOk X.prog X.w H s.heap tp (.tup cs) from I.hok tp _ hT)
  have e3 := ClsV.all k rv
  subst e3
  obtain ⟨oc, od, dt, sl⟩ := o
  simp only at h2 h3
  subst h2 h3
  exact PySem.W.kia_tup (PySem.W.handS_kitx_exc C.hg C.hk C.hs C.hd C.ha C.hn C.ht C.hm) I.kIn (instAt_kept he hz hd) h1 e (fun z => nomatch z) fun tk => ⟨.bl b, H, I.tok tk, rfl, q⟩
end
/-! ### facts of own exception classes, calls of defs that raise, defs with defaults -/
/-- an own exception class over ValueError, without an own __init__ -/
structure ExOwn (K : PySem.W.Frag) (mg : Str → Option Value) (x : Str) (C : Addr) : Prop where
  g : mg x = some (.ref C)
  x : PySem.W.excIn K C [.type "ValueError", .type "Exception", .type "BaseException", .type "object"] "ValueError.__new__" = true
  k : PySem.W.keepIn K (.ref C) = true
  b : PySem.W.subIn K (.ref C) (.type "BaseException") = some true
  t : PySem.W.typeIn K (.ref C) = some (.type "type")
  c : ExcC K C
theorem kit_ref {K : PySem.W.Frag} {A C : Addr} {b : Bool} (n : (Value.ref A == Value.ref C) = false) (i : PySem.W.isClsIn K C = true) (t : PySem.W.typeIn K (.ref C) = some (.type "type")) (q : PySem.W.subIn K (.ref A) (.ref C) = some b) : PySem.W.kitOne K (.ref A) (.ref C) = some b := by
  unfold PySem.W.kitOne
  rw [if_neg (by rw [n]; exact Bool.false_ne_true)]
  have i' : (PySem.W.clsIn K C).isSome = true := i
  show (if ((PySem.W.clsIn K C).isSome && PySem.W.typeIn K (.ref C) == some (.type "type")) = true then PySem.W.subIn K (.ref A) (.ref C) else none) = some b
  rw [i', t, if_pos (by simp)]
  exact q
theorem kit_self {K : PySem.W.Frag} {C : Addr} : PySem.W.kitOne K (.ref C) (.ref C) = some true := by
  unfold PySem.W.kitOne
  rw [if_pos (by simp)]
theorem kit_val {K : PySem.W.Frag} {A : Addr} (q : PySem.W.subIn K (.ref A) (.type "ValueError") = some true) : PySem.W.kitOne K (.ref A) (.type "ValueError") = some true := by
  unfold PySem.W.kitOne
  rw [if_neg (by simp)]
  have m : PySem.W.kitMeta "ValueError" = true := by decide +kernel
  show (if PySem.W.kitMeta "ValueError" = true then PySem.W.subIn K (.ref A) (.type "ValueError") else none) = some true
  rw [if_pos m]
  exact q
theorem exm_ref2 {K : PySem.W.Frag} {A C : Addr} {b : Bool} (h1 : PySem.W.subIn K (.ref C) (.type "BaseException") = some true) (i : PySem.W.isClsIn K C = true) (t : PySem.W.typeIn K (.ref C) = some (.type "type")) (q : PySem.W.subIn K (.ref A) (.ref C) = some b) : PySem.W.exmOne K (.ref A) (.ref C) = some b := by
  have i' : (PySem.W.clsIn K C).isSome = true := i
  show (if (PySem.W.subIn K (.ref C) (.type "BaseException") == some true) = true then (if ((PySem.W.clsIn K C).isSome && PySem.W.typeIn K (.ref C) == some (.type "type")) = true then PySem.W.subIn K (.ref A) (.ref C) else none) else none) = some b
  rw [h1, i', t, if_pos (by simp), if_pos (by simp)]
  exact q
/-- none of some classes -/
theorem kit_none {K : PySem.W.Frag} {t : Value} : ∀ {us : List Value}, (∀ u ∈ us, PySem.W.kitOne K t u = some false) → PySem.W.kitAny K t us = some false
  | [], _ => rfl
  | u :: us, h => kitAny_cons (h u List.mem_cons_self) (fun _ => kit_none fun x hx => h x (List.mem_cons_of_mem _ hx)) (fun z => by cases z)
theorem cls_all : ∀ {cs : List Addr}, Paired ClsV (cs.map V.ref) (cs.map Value.ref)
  | [] => .nil
  | c :: _ => .cons (.own c) cls_all
/-- a def with defaults dvs, and with its promise -/
def DfD (K : PySem.W.Frag) (mg : Str → Option Value) (x : Str) (st : Stmt) (ps : List Str) (dvs : List V) : Prop :=
  ∃ (f : Addr) (fd : FuncData), mg x = some (.ref f) ∧ FunD K x x (defArgs st) (defBody st) (defScope st) dvs [] f fd ∧ (∃ ds, Vals dvs ds ∧ Binds K fd ps ds) ∧ Binds K fd ps []
def OkD (P : Program) (w : World) (K : PySem.W.Frag) (mg : Str → Option Value) (base : Heap) (CX : CXT) (k : Nat) (x : Str) (ps : List Str) (dvs : List V) (sp : Sp) : Prop :=
  ∃ (f : Addr) (fd : FuncData), mg x = some (.ref f) ∧ PySem.W.keepIn K (.ref f) = true ∧ (∃ ds, Vals dvs ds ∧ Binds K fd ps ds) ∧ Binds K fd ps [] ∧ FnOk P w K mg base CX k f fd ps sp
theorem dfD_mk {K : PySem.W.Frag} {mg : Str → Option Value} {x : Str} {st : Stmt} {ps : List Str} {dvs : List V} {f T : Addr} {oc oC kV dc pm cd ct : Value} {od oD an : Option Addr} {sl sD : Array (Option Value)} {its : List Value} {n : Nat}
    (hm : mg x = some (.ref f)) (l : K.lookup f = some ⟨oc, od, .func (PySem.W.fnOf x x (defArgs st) (defBody st) (defScope st) (.ref T) kV dc pm an cd ct), sl⟩) (c : PySem.W.codeIn K cd x = true) (k : PySem.W.keepIn K (.ref f) = true)
    (d : K.lookup T = some ⟨oC, oD, .seq its.toArray n, sD⟩) (r : Vals dvs its) (hd : dvs ≠ []) {m : Nat} (hn : m + dvs.length = ps.length) (hz : dvs.drop dvs.length = [])
    (h1 : ∀ (T : Addr) (kV doc pm : Value) (an : Option Addr) (cdv ct : Value) (us its : List Value), us.length = m → its.length = dvs.length →
      ∃ k, bindArgs (PySem.W.fnOf x x (defArgs st) (defBody st) (defScope st) (.ref T) kV doc pm an cdv ct) ⟨us, []⟩ = seqItems? (.ref T) >>= k ∧ k (some its.toArray) = pure (ps.zip (us ++ its.drop 0)))
    (h2 : ∀ (T : Addr) (kV doc pm : Value) (an : Option Addr) (cdv ct : Value) (us its : List Value), us.length = ps.length → its.length = dvs.length →
      ∃ k, bindArgs (PySem.W.fnOf x x (defArgs st) (defBody st) (defScope st) (.ref T) kV doc pm an cdv ct) ⟨us, []⟩ = seqItems? (.ref T) >>= k ∧ k (some its.toArray) = pure (ps.zip (us ++ its.drop dvs.length))) : DfD K mg x st ps dvs := by
  have F : FunD K x x (defArgs st) (defBody st) (defScope st) dvs [] f (PySem.W.fnOf x x (defArgs st) (defBody st) (defScope st) (.ref T) kV dc pm an cd ct) :=
    ⟨⟨oc, od, .ref T, kV, dc, pm, an, cd, ct, sl, rfl, l, c, .inr ⟨hd, T, _, its, n, rfl, d, rfl, r⟩, .inl rfl⟩, k⟩
  refine ⟨f, _, hm, F, F.binds1 m 0 hd (by omega) h1, ?_⟩
  obtain ⟨ds, v, b⟩ := F.binds1 ps.length dvs.length hd (by omega) h2
  rw [hz] at v
  cases v
  exact b
section
variable {P : Program} {w : World} {K : PySem.W.Frag} {mg : Str → Option Value} {base : Heap}
theorem DfD.ok {CX : CXT} {x : Str} {st : Stmt} {N ps : List Str} {dvs : List V} {k : Nat} {sp : Sp} (D : DfD K mg x st ps dvs) (S : FnScope N ps (defScope st)) (len : ∀ vs H Q E, sp vs H Q E → vs.length = ps.length)
    (hbody : ∀ (f : Addr) (cdv : Value) (A : Around) (outer : List Env) (s : Shared) (H : Hp) (vs : List V) (Q : VK) (E : XK), Room k (A.deeper (envOfC x (defScope st) s.heap.objs.size f cdv)) → sp vs H Q E →
      ∃ t, PSs (cxOf CX P w K mg base N x (defScope st) f cdv A outer s H E) (defBody st) t ∧ t { nx := fun _ H' => Q .non H', rt := Q } (start N vs) H) : OkD P w K mg base CX (k + 1) x ps dvs sp := by
  obtain ⟨f, fd, hm, F, hb, hb0⟩ := D
  exact ⟨f, fd, hm, F.kp, hb, hb0, F.ok S len (hbody f)⟩
/-- a def that may raise -/
theorem Df.okX {x : Str} {st : Stmt} {N ps : List Str} {k : Nat} {sp : Sp} (D : Df K mg x st ps) (S : FnScope N ps (defScope st)) (len : ∀ vs H Q E, sp vs H Q E → vs.length = ps.length)
    (hbody : ∀ (f : Addr) (cdv : Value) (A : Around) (outer : List Env) (s : Shared) (H : Hp) (vs : List V) (Q : VK) (E : XK), Room k (A.deeper (envOfC x (defScope st) s.heap.objs.size f cdv)) → sp vs H Q E →
      ∃ t, PSs (cxOf (L2.CX P w) P w K mg base N x (defScope st) f cdv A outer s H E) (defBody st) t ∧ t { nx := fun _ H' => Q .non H', rt := Q } (start N vs) H) : OkF P w K mg base (L2.CX P w) (k + 1) x ps sp := by
  obtain ⟨f, fd, hm, F, hb⟩ := D
  exact ⟨f, fd, hm, F.kp, hb, F.okX S len (hbody f)⟩
end
section
variable {X : Cx} {k k' : Nat} {x : Str} {ps : List Str} {sp : Sp} {e : Expr} {es : List Expr} {t : TA} {p pos : Pos} {W : WX} {dvs : List V}
/-- f(e, ..) where f may raise -/
theorem pe_cx (O : OkF X.prog X.w X.K X.mg X.base (L2.CX X.prog X.w) k x ps sp) (hr : Room k' X.A) (tk : Takes X W) (ha : PA X (e :: es) t) (hk : k ≤ k' := by decide) (hg : Gl X x := by rfl)
    (hdb : (x == ("__debug__" : Str)) = false := by decide) (he : starEach (e :: es) X.env = (false, eval e X.env) :: starEach es X.env := by rfl) (hpl : (backTo pos (starEach es X.env)).any (·.1) = false := by rfl) :
    PE X (.Call (.Name x p) (e :: es) [] pos) (tCallS sp (WE W) t) := by
  obtain ⟨f, fd, hm, hkp, hb, F⟩ := O
  exact pe_callS F (hr.mono hk) hg hm hkp hb (fun σ => passAt tk σ) ha hdb he hpl
/-- the same, f with defaults, all arguments written -/
theorem pe_cxn (O : OkD X.prog X.w X.K X.mg X.base (L2.CX X.prog X.w) k x ps dvs sp) (hr : Room k' X.A) (tk : Takes X W) (ha : PA X (e :: es) t) (hk : k ≤ k' := by decide) (hg : Gl X x := by rfl)
    (hdb : (x == ("__debug__" : Str)) = false := by decide) (he : starEach (e :: es) X.env = (false, eval e X.env) :: starEach es X.env := by rfl) (hpl : (backTo pos (starEach es X.env)).any (·.1) = false := by rfl) :
    PE X (.Call (.Name x p) (e :: es) [] pos) (tCallS sp (WE W) t) := by
  obtain ⟨f, fd, hm, hkp, _, hb, F⟩ := O
  exact pe_callS F (hr.mono hk) hg hm hkp hb (fun σ => passAt tk σ) ha hdb he hpl
/-- the same, the defaults fill up -/
def tCallD (sp : Sp) (dvs : List V) (E : L2.St → XK) (t : TA) : TE := fun σ H Q => t σ H fun vs H1 => sp (vs ++ dvs) H1 Q (E σ)
theorem pe_cxd (O : OkD X.prog X.w X.K X.mg X.base (L2.CX X.prog X.w) k x ps dvs sp) (hr : Room k' X.A) (tk : Takes X W) (ha : PA X (e :: es) t) (hk : k ≤ k' := by decide) (hg : Gl X x := by rfl)
    (hdb : (x == ("__debug__" : Str)) = false := by decide) (he : starEach (e :: es) X.env = (false, eval e X.env) :: starEach es X.env := by rfl) (hpl : (backTo pos (starEach es X.env)).any (·.1) = false := by rfl) :
    PE X (.Call (.Name x p) (e :: es) [] pos) (tCallD sp dvs (WE W) t) := by
  obtain ⟨f, fd, hm, hkp, ⟨ds, hv, hb⟩, _, F⟩ := O
  refine ⟨fun pins s σ H Q I h => ?_⟩
  refine wpAny_Call_Name_kw (ld_glob I hg hm ?_ hdb)
  refine PySem.W.callWith_K (h₀ := X.base) I.ok.mod.kin hkp (thn (ha.run pos pins s σ H _ I h) fun us s1 ⟨vs, H1, I1, r, q⟩ => ⟨I1.kIn, ?_⟩) he hpl
  have hl : (vs ++ dvs).length = ps.length := F.len _ _ _ _ q
  have b := hb s1 us I1.kIn (by rw [← hl, List.length_append, List.length_append, r.length, hv.length])
  refine wpAny_call (codeAny_mono (F.run X.A X.stack s1 H1 ⟨us, []⟩ (us ++ ds) (vs ++ dvs) Q (WE W σ) (hr.mono hk) I1.env0 b (r.append hv) q) fun rr s2 hq => ?_)
  cases rr with
  | error e => exact passAt tk σ pins H1 s1 e s2 I1 hq
  | ok fl =>
    cases fl with
    | ret u => exact I1.after hq
    | next => exact False.elim hq
    | brk => exact False.elim hq
    | cont => exact False.elim hq
end
end Dear

namespace Dear
open PySem PySem.Spec PyProof.Rows L2
/-! ### own exceptions with an own __init__: X(DearError), DearError.__init__(self, f'..{f}'), self.f = f -/
/-- what may stand in such a field -/
def FmtV (v : V) : Prop := v = .non ∨ (∃ y : Str, v = .str y ∧ y.length ≤ 900) ∨ ∃ i : Int, v = .int i ∧ i.natAbs < 2 ^ 64
theorem int_len {i : Int} (h : i.natAbs < 2 ^ 64) : (Str.ofString (toString i)).length ≤ 900 ∧ i.natAbs.log2 < 1920 := by
  constructor
  · have e := int_text_length_le10 (k := 30) (a := i) (by decide) (Nat.lt_of_lt_of_le h (by decide))
    rw [PySem.ofString_length]
    omega
  · have e : i.natAbs.log2 < 64 := PySem.Flt.log2_lt_of (by decide) h
    omega
section
variable {X : Cx}
/-- {x} of None, a text, a number: some short text -/
def tFmtN (te : TE) : TE := fun σ H Q => te σ H fun x H1 => FmtV x ∧ ∀ z : Str, z.length ≤ 900 → Q (.str z) H1
theorem pe_fmtN {e : Expr} {te : TE} {pos : Pos} (he : PE X e te) : PE X (.FormattedValue e (-1) none pos) (tFmtN te) := by
  refine ⟨fun pins s σ H Q I h => wpAny_FormattedValue_plain (thn (he.run pins s σ H _ I h) fun v s1 hv => ?_)⟩
  obtain ⟨x, H1, J, r, hx, q⟩ := hv
  rcases hx with e | ⟨y, e, hy⟩ | ⟨i, e, hi⟩
  · subst e
    cases (show v = Value.none from r)
    exact wpAny_formatField_none ⟨.str "None", H1, (J.tok _), ⟨_, rfl⟩, q _ (by decide +kernel)⟩
  · subst e
    obtain ⟨t, e⟩ := r
    subst e
    have q' := q y hy
    exact wpAny_formatField_str ⟨.str y, H1, J, ⟨t, rfl⟩, q'⟩ ⟨.str y, H1, J.tok _, ⟨_, rfl⟩, q'⟩ (Nat.le_trans hy (by decide))
  · subst e
    obtain ⟨t, e⟩ := r
    subst e
    exact wpAny_formatField_int (int_len hi).2 ⟨.str (Str.ofString (toString i)), H1, J.tok _, ⟨_, rfl⟩, q _ (int_len hi).1⟩
end
/-- C.__init__ of an own exception class without an own one is ValueError's -/
structure DrI (K : PySem.W.Frag) (mg : Str → Option Value) (x : Str) (C : Addr) : Prop where
  g : mg x = some (.ref C)
  s : PySem.W.specialIn K (.ref C) "__getattribute__" = some (some (.builtin "type.__getattribute__"))
  r : PySem.W.readsIn K C (.type "type") = true
  v : PySem.W.findCls K (.ref C) (.type "type") "__init__" = some (.val (.builtin "ValueError.__init__"))
section
variable {X : Cx}
theorem pe_drinit {e : Expr} {es : List Expr} {ta : TA} {x : Str} {C0 : Addr} {pl : Sem Bool} {p1 p2 pos : Pos} (T : DrI X.K X.mg x C0) (ha : PA X (e :: es) ta) (hg : Gl X x := by rfl) (hdb : (x == ("__debug__" : Str)) = false := by decide)
    (hc : eval (.Call (.Attribute (.Name x p1) "__init__" p2) (e :: es) [] pos) X.env = (do
      let o9 ← eval (.Name x p1) X.env
      standAt p2.atName
      let (f9, r9) ← holding [o9] (getMethod o9 "__init__" pl)
      callWith pos f9 r9 (backTo pos (starEach (e :: es) X.env)) (backToKw pos (keywordEach [] X.env))) := by rfl)
    (he : starEach (e :: es) X.env = (false, eval e X.env) :: starEach es X.env := by rfl) (hpl : (backTo pos (starEach es X.env)).any (·.1) = false := by rfl) :
    PE X (.Call (.Attribute (.Name x p1) "__init__" p2) (e :: es) [] pos) (tVeI X.K ta) := by
  refine ⟨fun pins s σ H Q I h => PySem.W.methodCall_KW (ld_glob I hg T.g ?_ hdb) hc⟩
  refine PySem.W.method_cls I.kIn T.s (PySem.W.cls_value I.kIn T.r T.v (by decide +kernel) ?_)
  show wpAny (model X.prog X.w) X.A (callWith pos (Value.builtin "ValueError.__init__") [] (backTo pos (starEach (e :: es) X.env)) []) _ _ _
  refine PyProof.Rows.callWith_method1 (thn (ha.run pos pins _ σ H _ (I.tok _) h) fun us s1 hh => ?_) he hpl
  obtain ⟨vs, H1, J, r, a, C, ws, ev, hl, O, ea, q⟩ := hh
  subst ev
  cases r with
  | @cons _ u0 _ ur ra rr =>
    cases (show u0 = Value.ref a from ra)
    exact oinit_ok O J ea (by rw [← Paired.length rr]; exact Nat.le_trans hl (by decide)) fun s' J' => ⟨.non, H1, J', rfl, q⟩
end
/-- the promise of such an __init__ -/
def spExI (f : Str) (K : PySem.W.Frag) : Sp := fun vs H Q _ => ∃ (a C : Addr) (v : V), vs = [.ref a, v] ∧ OexC K C ∧ PySem.W.findIn K (.ref C) f = some none ∧ H a = some (exo a C none) ∧ FmtV v ∧
  ∀ dx, H dx = none → dx ≠ a → Q .non (upd (upd H dx (exd dx [(f, v)])) a (exo a C (some dx)))
/-- what the written part says of the class at C -/
structure ExInit (K : PySem.W.Frag) (mg : Str → Option Value) (x f : Str) (C : Addr) : Prop where
  g : mg x = some (.ref C)
  o : OexC K C
  n : PySem.W.findIn K (.ref C) f = some none
  c : ExcC K C
def OkI (P : Program) (w : World) (K : PySem.W.Frag) (mg : Str → Option Value) (base : Heap) (x f : Str) (C : Addr) : Prop :=
  ∃ (fI : Addr) (fd : FuncData), PySem.W.findIn K (.ref C) "__init__" = some (some (.ref fI)) ∧ PySem.W.typeIn K (.ref fI) = some (.type "function") ∧ FnOk P w K mg base CX0 1 fI fd ["self", f] (spExI f K) ∧ Binds K fd ["self", f] [] ∧ ExInit K mg x f C
/-- the def __init__ of the class at C -/
def DfI (K : PySem.W.Frag) (C : Addr) (q : Str) (st : Stmt) (f : Str) : Prop := ∃ (fI : Addr) (fd : FuncData), PySem.W.findIn K (.ref C) "__init__" = some (some (.ref fI)) ∧ PySem.W.typeIn K (.ref fI) = some (.type "function") ∧ Fun K "__init__" q st fI fd ∧ Binds K fd ["self", f] []
section
variable {X : Cx}
theorem pmk_i {k' : Nat} {x f : Str} {C : Addr} {e : Expr} {ta : TA} {p pos : Pos} (O : OkI X.prog X.w X.K X.mg X.base x f C) (hr : Room k' X.A) (ha : PA X [e] ta) (hk : 2 ≤ k' := by decide) (hg : Gl X x := by rfl) (hdb : (x == ("__debug__" : Str)) = false := by decide)
    (he : starEach [e] X.env = (false, eval e X.env) :: starEach [] X.env := by rfl) (hpl : (backTo pos (starEach [] X.env)).any (·.1) = false := by rfl) : PMk X (.Call (.Name x p) [e] [] pos) (tMkO C (spExI f X.K) [] ta) := by
  obtain ⟨fI, fd, h1, h2, F, b, T⟩ := O
  exact pmk_oex T.o h1 h2 F (hr.mono hk) b .nil pass0 hg T.g ha hdb he hpl
end
/-- making it, at its reading -/
theorem mkx {K : PySem.W.Frag} {mg : Str → Option Value} {x f : Str} {C : Addr} {H : Hp} {v : V} {Q : XK} (T : ExInit K mg x f C) (fv : FmtV v) (q : ∀ d, H d = none → Q (.ref C) (some d) (upd H d (.xd [(f, v)]))) :
    [v].length ≤ 1000 ∧ ∀ a, H a = none → spExI f K (.ref a :: ([v] ++ [])) (upd H a (exo a C none)) (fun u H2 => u = .non ∧ ∃ (d : Addr) (fs : List (Str × V)), H2 a = some (exo a C (some d)) ∧ H2 d = some (exd d fs) ∧ H d = none ∧ Q (.ref C) (some d) (upd (del H2 a) d (.xd fs))) (fun _ _ _ => False) := by
  refine ⟨(by decide : 1 ≤ 1000), fun a ha => ⟨a, C, v, rfl, T.o, T.n, upd_same, fv, fun dx hd ne => ⟨rfl, dx, [(f, v)], upd_same, ?_, ?_, ?_⟩⟩⟩
  · rw [upd_ne ne, upd_same]
  · rw [upd_ne ne] at hd
    exact hd
  · rw [upd_ne ne] at hd
    have e : upd (del (upd (upd (upd H a (exo a C none)) dx (exd dx [(f, v)])) a (exo a C (some dx))) a) dx (.xd [(f, v)]) = upd H dx (.xd [(f, v)]) := by
      funext b
      by_cases h1 : b = dx
      · subst h1
        rw [upd_same, upd_same]
      · rw [upd_ne h1, upd_ne h1]
        by_cases h2 : b = a
        · subst h2
          rw [del_same, ha]
        · rw [del_ne h2, upd_ne h2, upd_ne h1, upd_ne h2]
    rw [e]
    exact q dx hd
/-! ### a kept exception with a dict: isinstance, its field -/
/-- the exception of the class D at a, with its dict or without -/
def ExAt (H : Hp) (D a : Addr) : Prop := H a = some (ExK (.ref D) none a) ∨ ∃ (dd : Addr) (fs : List (Str × V)), H a = some (ExK (.ref D) (some dd) a) ∧ H dd = some (.xd fs)
section
variable {prog : Program} {w : World} {A : Around} {E : Value → Shared → Prop} {s : Shared} {K : PySem.W.Frag} {x D : Addr} {ox : Obj} {od : Option Obj}
open PySem.W in
theorem class_of_exc {Q : Option Value → Shared → Prop} (C : ExcC K D) (X : K.In s.heap) (I : InstAt s.heap x ox D od) (h : Q (some (.ref D)) { s with toks := s.toks + 1 }) : wpAny (model prog w) A (getAttr? (.ref x) "__class__") Q E s := by
  obtain ⟨cd, hc, _⟩ := any_some C.hd
  have found : findObj K D od "__class__" = some (.bind (.builtin "getset_descriptor.__get__") (.builtin "object.__class__")) := by
    unfold findObj
    rw [hc, Option.bind_some, C.ha, Option.bind_some]
    simp [C.hn, C.ht]
  obtain ⟨hp, g, d, t, os⟩ := s
  have M0 := I.type (M := model prog w)
  have no : (Value.builtin "BaseException.__getattribute__" == Value.builtin "object.__getattribute__") = false := by decide +kernel
  have isE : Looks (model prog w) hp (isInstance (.ref x) (.type "BaseException")) true := M0.andThen (looks_subIn X C.hs)
  unfold getAttr? getAttrBy? getAttrBy
  refine wpAny_bind (wpAny_mkText (wpAny_bind (wpAny_attempt (wpAny_holding (wpAny_bind (M0.at (wpAny_bind ((looks_findIn (M := model prog w) X C.hg).at ?_))))))))
  show wpAny (model prog w) _ (if (true && Value.builtin "BaseException.__getattribute__" == Value.builtin "object.__getattribute__") = true then _ else _) _ _ _
  rw [no, if_neg (by decide)]
  unfold getAttrByItsOwn hookBefore
  refine wpAny_bind ?_
  rw [if_pos (show onTheHeap (.ref D) = true from rfl)]
  refine (looks_findIn (M := model prog w) X C.hk).at (wpAny_bind (wpAny_attempt (wpAny_holding ?_)))
  unfold callGetattribute
  rw [if_neg (by decide)]
  unfold boundAndCalled
  rw [F.excAttr_ValueError.ga.bind (.ref x)]
  refine wpAny_bind (wpAny_pure ?_)
  show wpAny (model prog w) _ (call (.builtin "BaseException.__getattribute__") [.ref x, .str "__class__" t]) _ _ _
  refine wpAny_call (codeAny_call_builtin F.excAttr_ValueError.ga.plain F.entry_bexc_ga (@check_slot (model prog w) _ _ ⟨hp, g, d, t + 1, os⟩ "BaseException.__getattribute__" "BaseException" "__getattribute__" (.ref x) [.str "__class__" t] [] _ (by decide +kernel) (by decide +kernel) isE (F.args_bexc_ga (.ref x) (.str "__class__" t)) ?_))
  unfold Builtin.«object.__getattribute__»
  refine wpAny_bind (wpAny_of_eq (a := ((Value.ref x : Value), [Value.str "__class__" t])) (by first | (simp only [slotArgs]; rfl) | rfl) (wpAny_bind (wpAny_pure (wpAny_bind (M0.at (wpAny_bind ((looks_find (M := model prog w) X I found).at ?_)))))))
  show wpAny (model prog w) _ (holding [Value.builtin "object.__class__"] (call (.builtin "getset_descriptor.__get__") [.builtin "object.__class__", .ref x, .ref D]) >>= ret) _ _ _
  refine wpAny_bind (wpAny_holding (wpAny_call (class_get (s := ⟨hp, g, d, t + 1, os⟩) (ox := ox) (od := od) X I C.hm (wpAny_pure ?_))))
  show wpAny (model prog w) _ (handedOut (.ref D)) _ _ _
  rw [handedOut_of (v := .ref D) rfl]
  first
    | exact wpAny_pure (wpAny_pure h)
    | exact wpAny_pure h
    | exact wpAny_pure (wpAny_bind (wpAny_pure (wpAny_pure h)))
open PySem.W in
theorem kitx_own (C : ExcC K D) : KitX K (.ref x) (.ref D) (fun h => InstAt h x ox D od) := by
  have Z := handS_kitx_exc (x := x) (ox := ox) C.hg C.hk C.hs C.hd C.ha C.hn C.ht C.hm
  refine ⟨fun _ _ _ I => I.type, fun M h X _ => ?_, Z.ne, fun X I k => class_of_exc C X I k⟩
  obtain ⟨cd, hc, _⟩ := any_some C.hd
  unfold clsIn at hc
  split at hc
  · rename_i ho
    intro A' Q' E' s' k q
    unfold isType loadHead
    exact wpAny_bind (wpAny_loadPart (k _ _ (X _ _ ho)) (wpAny_pure q))
  · cases hc
end
def rIsY (K : PySem.W.Frag) : List V → Hp → VK → Prop := fun xs H Q => ∃ (a D : Addr) (c : V) (u : Value) (b : Bool), xs = [.ref a, c] ∧ ExAt H D a ∧ ExcC K D ∧ ClsV c u ∧ PySem.W.kitOne K (.ref D) u = some b ∧ Q (.bl b) H
def rIsYT (K : PySem.W.Frag) : List V → Hp → VK → Prop := fun xs H Q => ∃ (a D tp : Addr) (cs : List V) (us : List Value) (b : Bool), xs = [.ref a, .ref tp] ∧ ExAt H D a ∧ ExcC K D ∧ H tp = some (.tup cs) ∧ Paired ClsV cs us ∧ PySem.W.kitAny K (.ref D) us = some b ∧ Q (.bl b) H
section
variable {X : Cx} {pins : List (Addr × Obj)} {σ : L2.St} {H : Hp} {s : Shared}
theorem inst_of (I : Inv X pins σ H s) {D a : Addr} (h : ExAt H D a) : ∃ oe od, PySem.W.InstAt s.heap a oe D od := by
  rcases h with h | ⟨dd, fs, h, hd⟩
  · obtain ⟨⟨oe, vs, he, hz, hv⟩, _⟩ := I.hok a _ h
    exact ⟨oe, none, instAt_kept he hz hv⟩
  · obtain ⟨⟨oe, vs, he, hz, hv⟩, _⟩ := I.hok a _ h
    have hx : ObjOk X.prog X.w H s.heap dd (.xd fs) := I.hok dd _ hd
    obtain ⟨mA, hns, _⟩ := hx
    obtain ⟨od, ho, _⟩ := lookIn_ns hns
    exact ⟨oe, some od, he, hz.1, by unfold PySem.W.notCls; rw [hv] <;> rfl, by rw [hz.2]; exact ho⟩
end
section
variable {X : Cx} (K : PySem.W.Frag)
theorem call_isY_k (hk : X.K = K := by rfl) : CallR X (.builtin "isinstance") (rIsY K) := by
  subst hk
  intro pins s σ H xs us Q I r h
  obtain ⟨a, D, c, u, b, rfl, ha, C, k, e, q⟩ := h
  obtain ⟨u1, u2, rfl, r1, r2⟩ := vals2 r
  have e2 := k.eq r2
  subst e2
  cases r1
  obtain ⟨oe, od, J⟩ := inst_of I ha
  exact PySem.W.kia_one (kitx_own C) I.kIn J e (fun z => nomatch z) fun tk => ⟨.bl b, H, I.tok tk, rfl, q⟩
theorem call_isYT_k (hk : X.K = K := by rfl) : CallR X (.builtin "isinstance") (rIsYT K) := by
  subst hk
  intro pins s σ H xs us Q I r h
  obtain ⟨a, D, tp, cs, ws, b, rfl, ha, C, hT, k, e, q⟩ := h
  obtain ⟨u1, u2, rfl, r1, r2⟩ := vals2 r
  cases r1
  cases (show u2 = Value.ref tp from r2)
  obtain ⟨oe, od9, J⟩ := inst_of I ha
  obtain ⟨_, its, rv, o, h1, h2, n, h3⟩ := (show ObjOk X.prog X.w H s.heap tp (.tup cs) from I.hok tp _ hT)
  have e3 := ClsV.all k rv
  subst e3
  obtain ⟨oc, od, dt, sl⟩ := o
  simp only at h2 h3
  subst h2 h3
  exact PySem.W.kia_tup (kitx_own C) I.kIn J h1 e (fun z => nomatch z) fun tk => ⟨.bl b, H, I.tok tk, rfl, q⟩
/-- e.f, e a kept exception -/
def tXfK (K : PySem.W.Frag) (f : Str) (te : TE) : TE := fun σ H Q => te σ H fun x H1 => ∃ (a C dd : Addr) (fs : List (Str × V)) (v : V), x = .ref a ∧ H1 a = some (ExK (.ref C) (some dd) a) ∧ H1 dd = some (.xd fs) ∧ ExcC K C ∧ PySem.W.findIn K (.ref C) f = some none ∧ fs.lookup f = some v ∧ Q v H1
theorem pe_xfK {e : Expr} {te : TE} {pos : Pos} {f : Str} (he : PE X e te) (hk : X.K = K := by rfl) (hb : attributeBase e f X.env (eval e X.env) = eval e X.env := by rfl) : PE X (.Attribute e f pos) (tXfK K f te) := by
  subst hk
  refine ⟨fun pins s σ H Q I h => attr_of hb (thn (he.run pins s σ H _ I h) fun u s1 hh => ?_)⟩
  obtain ⟨x, H1, J, rx, a, C, dd, fs, v, ex, ea, ed, T, hno, l, q⟩ := hh
  subst ex
  cases (show u = Value.ref a from rx)
  obtain ⟨⟨oe, vs, hoe, hz, hv⟩, _⟩ := J.hok a _ ea
  have hx : ObjOk X.prog X.w H1 s1.heap dd (.xd fs) := J.hok dd _ ed
  obtain ⟨mA, hns, hr⟩ := hx
  obtain ⟨od, ho, hl⟩ := lookIn_ns hns
  obtain ⟨u, hu, ru⟩ := RelO.some_of (v := v) (o := mA f) (by rw [← l]; exact hr f)
  have Z : PySem.W.InstAt s1.heap a oe C (some od) := ⟨hoe, hz.1, by unfold PySem.W.notCls; rw [hv] <;> rfl, by rw [hz.2]; exact ho⟩
  exact HandSPX.exc_get J.kIn Z T.hg T.hk T.hs (PySem.W.findObj_own T.hd hno rfl (by rw [hl, hu])) (handed_of ru) ⟨v, H1, J.tok _, ru, q⟩
end
end Dear

namespace Dear
open PySem PySem.Spec PyProof.Rows L2
/-! ### own classes: making an object, its methods; both may raise -/
def DfM (K : PySem.W.Frag) (C : Addr) (m q : Str) (st : Stmt) (ps : List Str) : Prop := ∃ (f : Addr) (fd : FuncData), Meth K C m f ∧ Fun K m q st f fd ∧ Binds K fd ps []
def DfC (K : PySem.W.Frag) (mg : Str → Option Value) (x : Str) (C : Addr) (q : Str) (st : Stmt) (ps : List Str) : Prop := mg x = some (.ref C) ∧ ∃ (f : Addr) (fd : FuncData), L2.Mk K C f ∧ Fun K "__init__" q st f fd ∧ Binds K fd ps []
def OkM (P : Program) (w : World) (K : PySem.W.Frag) (mg : Str → Option Value) (base : Heap) (CX : CXT) (k : Nat) (C : Addr) (m : Str) (ps : List Str) (sp : Sp) : Prop :=
  ∃ (f : Addr) (fd : FuncData), Meth K C m f ∧ Binds K fd ps [] ∧ FnOk P w K mg base CX k f fd ps sp
def OkC (P : Program) (w : World) (K : PySem.W.Frag) (mg : Str → Option Value) (base : Heap) (CX : CXT) (k : Nat) (x : Str) (C : Addr) (ps : List Str) (sp : Sp) : Prop :=
  mg x = some (.ref C) ∧ ∃ (f : Addr) (fd : FuncData), L2.Mk K C f ∧ Binds K fd ps [] ∧ FnOk P w K mg base CX k f fd ps sp
section
variable {P : Program} {w : World} {K : PySem.W.Frag} {mg : Str → Option Value} {base : Heap} {C : Addr} {x m q : Str} {st : Stmt} {N ps : List Str} {k : Nat} {sp : Sp}
theorem DfM.ok (D : DfM K C m q st ps) (S : FnScope N ps (defScope st)) (len : ∀ vs H Q E, sp vs H Q E → vs.length = ps.length)
    (body : ∀ (f : Addr) (cdv : Value) (A : Around) (outer : List Env) (s : Shared) (H : Hp) (vs : List V) (Q : VK) (E : XK), Room k (A.deeper (envOfC q (defScope st) s.heap.objs.size f cdv)) → sp vs H Q E →
      ∃ t, PSs (cxOf CX0 P w K mg base N q (defScope st) f cdv A outer s H E).nox (defBody st) t ∧ t { nx := fun _ H' => Q .non H', rt := Q } (start N vs) H) : OkM P w K mg base CX0 (k + 1) C m ps sp := by
  obtain ⟨f, fd, hm, F, hb⟩ := D
  exact ⟨f, fd, hm, hb, F.ok S len (body f)⟩
theorem DfM.okX (D : DfM K C m q st ps) (S : FnScope N ps (defScope st)) (len : ∀ vs H Q E, sp vs H Q E → vs.length = ps.length)
    (body : ∀ (f : Addr) (cdv : Value) (A : Around) (outer : List Env) (s : Shared) (H : Hp) (vs : List V) (Q : VK) (E : XK), Room k (A.deeper (envOfC q (defScope st) s.heap.objs.size f cdv)) → sp vs H Q E →
      ∃ t, PSs (cxOf (L2.CX P w) P w K mg base N q (defScope st) f cdv A outer s H E) (defBody st) t ∧ t { nx := fun _ H' => Q .non H', rt := Q } (start N vs) H) : OkM P w K mg base (L2.CX P w) (k + 1) C m ps sp := by
  obtain ⟨f, fd, hm, F, hb⟩ := D
  exact ⟨f, fd, hm, hb, F.okX S len (body f)⟩
theorem DfC.okX (D : DfC K mg x C q st ps) (S : FnScope N ps (defScope st)) (len : ∀ vs H Q E, sp vs H Q E → vs.length = ps.length)
    (body : ∀ (f : Addr) (cdv : Value) (A : Around) (outer : List Env) (s : Shared) (H : Hp) (vs : List V) (Q : VK) (E : XK), Room k (A.deeper (envOfC q (defScope st) s.heap.objs.size f cdv)) → sp vs H Q E →
      ∃ t, PSs (cxOf (L2.CX P w) P w K mg base N q (defScope st) f cdv A outer s H E) (defBody st) t ∧ t { nx := fun _ H' => Q .non H', rt := Q } (start N vs) H) : OkC P w K mg base (L2.CX P w) (k + 1) x C ps sp := by
  obtain ⟨g, f, fd, hm, F, hb⟩ := D
  exact ⟨g, f, fd, hm, hb, F.okX S len (body f)⟩
theorem DfC.ok (D : DfC K mg x C q st ps) (S : FnScope N ps (defScope st)) (len : ∀ vs H Q E, sp vs H Q E → vs.length = ps.length)
    (body : ∀ (f : Addr) (cdv : Value) (A : Around) (outer : List Env) (s : Shared) (H : Hp) (vs : List V) (Q : VK) (E : XK), Room k (A.deeper (envOfC q (defScope st) s.heap.objs.size f cdv)) → sp vs H Q E →
      ∃ t, PSs (cxOf CX0 P w K mg base N q (defScope st) f cdv A outer s H E).nox (defBody st) t ∧ t { nx := fun _ H' => Q .non H', rt := Q } (start N vs) H) : OkC P w K mg base CX0 (k + 1) x C ps sp := by
  obtain ⟨g, f, fd, hm, F, hb⟩ := D
  exact ⟨g, f, fd, hm, hb, F.ok S len (body f)⟩
end
/-- o.m(..), the way out for a raise told at the names' values -/
def tMethX (C : Addr) (m : Str) (sp : Sp) (E : L2.St → XK) (ta : TE) (t : TA) : TE := fun σ H Q => ta σ H fun x H1 => ∃ a dx fs, x = .ref a ∧ H1 a = some (.ins C dx fs) ∧ fs.lookup m = none ∧ t σ H1 fun vs H2 => sp (x :: vs) H2 Q (E σ)
def tMakeX (C : Addr) (sp : Sp) (E : L2.St → XK) (t : TA) : TE := fun σ H Q => t σ H fun vs H1 => ∀ x dx, H1 x = none → H1 dx = none → dx ≠ x → sp (.ref x :: vs) (upd (upd H1 dx (.own x)) x (.ins C dx [])) (fun v H2 => v = .non ∧ Q (.ref x) H2) (E σ)
section
variable {X : Cx} {k k' : Nat} {C : Addr} {x m : Str} {ps : List Str} {sp : Sp} {o e : Expr} {es : List Expr} {ta : TE} {t : TA} {p pos apos : Pos} {W : WX}
/-- o.m(e, ..) -/
theorem pe_m {pl : Sem Bool} (O : OkM X.prog X.w X.K X.mg X.base CX0 k C m ps sp) (c : Cls X.K C) (hr : Room k' X.A) (he : PE X o ta) (ha : PA X (e :: es) t) (hk : k ≤ k' := by decide)
    (hst : starEach (e :: es) X.env = (false, eval e X.env) :: starEach es X.env := by rfl) (hpl : (backTo pos (starEach es X.env)).any (·.1) = false := by rfl)
    (ht : eval (.Call (.Attribute o m apos) (e :: es) [] pos) X.env = (do
      let u ← eval o X.env
      standAt apos.atName
      let (g, fst) ← holding [u] (getMethod u m pl)
      callWith pos g fst (backTo pos (starEach (e :: es) X.env)) (backToKw pos (keywordEach [] X.env))) := by rfl) : PE X (.Call (.Attribute o m apos) (e :: es) [] pos) (tMeth C m sp [] E0 ta t) := by
  obtain ⟨f, fd, hm, hb, F⟩ := O
  exact pe_meth he c hm F (hr.mono hk) hb .nil pass0 ha hst hpl ht
theorem pe_mz {pl : Sem Bool} (O : OkM X.prog X.w X.K X.mg X.base CX0 k C m ps sp) (c : Cls X.K C) (hr : Room k' X.A) (he : PE X o ta) (hk : k ≤ k' := by decide)
    (ht : eval (.Call (.Attribute o m apos) [] [] pos) X.env = (do
      let u ← eval o X.env
      standAt apos.atName
      let (g, fst) ← holding [u] (getMethod u m pl)
      callWith pos g fst (backTo pos (starEach [] X.env)) (backToKw pos (keywordEach [] X.env))) := by rfl) : PE X (.Call (.Attribute o m apos) [] [] pos) (tMeth C m sp [] E0 ta tNil) := by
  obtain ⟨f, fd, hm, hb, F⟩ := O
  exact pe_meth0 he c hm F (hr.mono hk) hb .nil pass0 ht
/-- o.m(e, ..) that may raise -/
theorem pe_mx {pl : Sem Bool} (O : OkM X.prog X.w X.K X.mg X.base (L2.CX X.prog X.w) k C m ps sp) (c : Cls X.K C) (hr : Room k' X.A) (tk : Takes X W) (he : PE X o ta) (ha : PA X (e :: es) t) (hk : k ≤ k' := by decide)
    (hst : starEach (e :: es) X.env = (false, eval e X.env) :: starEach es X.env := by rfl) (hpl : (backTo pos (starEach es X.env)).any (·.1) = false := by rfl)
    (ht : eval (.Call (.Attribute o m apos) (e :: es) [] pos) X.env = (do
      let u ← eval o X.env
      standAt apos.atName
      let (g, fst) ← holding [u] (getMethod u m pl)
      callWith pos g fst (backTo pos (starEach (e :: es) X.env)) (backToKw pos (keywordEach [] X.env))) := by rfl) : PE X (.Call (.Attribute o m apos) (e :: es) [] pos) (tMethX C m sp (WE W) ta t) := by
  obtain ⟨f, fd, hm, hb, F⟩ := O
  refine ⟨fun pins s σ H Q I h => ?_⟩
  refine PySem.W.methodCall_KW (pl := pl) (thn (he.run pins s σ H _ I h) fun u s1 ⟨y, H1, I1, ry, b, dx, fs, ey, eb, lk, q⟩ => ?_) ht
  subst ey
  obtain rfl : u = Value.ref b := ry
  refine getmeth_ok I1 eb c hm lk ?_
  refine PySem.W.callWith_K (first := [.ref b]) (h₀ := X.base) I.ok.mod.kin hm.kp (thn (ha.run pos pins s1 σ H1 _ I1 q) fun us s2 ⟨vs, H2, I2, r, q2⟩ => ⟨I2.kIn, ?_⟩) hst hpl
  exact run_fnS (us := .ref b :: us) (vs := .ref b :: vs) F (hr.mono hk) hb (E := WE W) (passAt tk σ) I2 (.cons rfl r) q2
/-- C(e, ..) whose __init__ may raise -/
theorem pe_mkx (O : OkC X.prog X.w X.K X.mg X.base (L2.CX X.prog X.w) k x C ps sp) (hr : Room k' X.A) (tk : Takes X W) (ha : PA X (e :: es) t) (hk : k + 1 ≤ k' := by decide) (hg : Gl X x := by rfl)
    (hdb : (x == ("__debug__" : Str)) = false := by decide) (he : starEach (e :: es) X.env = (false, eval e X.env) :: starEach es X.env := by rfl) (hpl : (backTo pos (starEach es X.env)).any (·.1) = false := by rfl) :
    PE X (.Call (.Name x p) (e :: es) [] pos) (tMakeX C sp (WE W) t) := by
  obtain ⟨hm, f, fd, M, hb, F⟩ := O
  refine ⟨fun pins s σ H Q I h => ?_⟩
  refine wpAny_Call_Name_kw (ld_glob I hg hm ?_ hdb)
  refine PySem.W.callWith_K (h₀ := X.base) I.ok.mod.kin M.kp (thn (ha.run pos pins s σ H _ I h) fun us s1 ⟨vs, H1, I1, r, q⟩ => ⟨I1.kIn, ?_⟩) he hpl
  have q1 := q (s1.heap.objs.size + 1) s1.heap.objs.size (I1.hok.fresh (Nat.le_succ _)) (I1.hok.fresh (Nat.le_refl _)) (Nat.ne_of_lt (Nat.lt_succ_self _))
  have J := Inv.made (C := C) I1
  have r1 : Vals (V.ref (s1.heap.objs.size + 1) :: vs) (Value.ref (s1.heap.objs.size + 1) :: us) := .cons rfl r
  have ln : (Value.ref (s1.heap.objs.size + 1) :: us ++ []).length = ps.length := by
    rw [List.append_nil, ← r1.length]
    exact F.len _ _ _ _ q1
  have b := hb _ (Value.ref (s1.heap.objs.size + 1) :: us) J.kIn ln
  rw [List.append_nil] at b
  refine wpAny_call (make_map (f := f) I1.kIn M.makes M.init (beq_iff_eq.mp M.fn) (codeAny_mono (F.run _ X.stack _ _ ⟨Value.ref (s1.heap.objs.size + 1) :: us, []⟩ _ _ _ (WE W σ) ((hr.mono hk).make C us [])
    (J.env0.make C us []) b r1 q1) fun rr s2 hq => ?_))
  cases rr with
  | error er => exact passAt tk σ pins _ _ er s2 J hq
  | ok fl =>
    cases fl with
    | ret u =>
      obtain ⟨v, H3, I3, rv, ev, q3⟩ := J.after hq
      subst ev
      exact ⟨rv, ⟨V.ref (s1.heap.objs.size + 1), H3, I3, rfl, q3⟩⟩
    | next => exact False.elim hq
    | brk => exact False.elim hq
    | cont => exact False.elim hq
end
/-- text += text, on an attribute -/
def rAddT : V → V → Hp → VK → Prop := fun x y H Q => ∃ i j, x = .str i ∧ y = .str j ∧ i.length + j.length ≤ sizeLine ∧ Q (.str (i ++ j)) H
theorem in_addT {X : Cx} : InOp X .Add rAddT := fun pins s σ H x y u v Q I rx ry h => iop_add_str pins s σ H x y u v Q I rx ry h
theorem pe_fld_k {X : Cx} (K : PySem.W.Frag) {e : Expr} {f : Str} {pos : Pos} {ta : TE} (he : PE X e ta) (hb : attributeBase e f X.env (eval e X.env) = eval e X.env) (hk : X.K = K := by rfl) : PE X (.Attribute e f pos) (tFld K ta f) := hk ▸ pe_fld he hb
end Dear

namespace Dear
open PySem PySem.Spec PyProof.Rows L2
/-! ### the set of a list of texts (any number), and how many it has -/
def dd1 (m : List Str) (v : Str) : List Str := if v ∈ m then m else m ++ [v]
def dd (xs : List Str) : List Str := xs.foldl dd1 []
theorem dd1_any (m : List Str) (v k : Str) : (m.any (· == k) || decide (k = v)) = (dd1 m v).any (· == k) := by
  unfold dd1
  by_cases h : v ∈ m
  · rw [if_pos h]
    by_cases e : k = v
    · subst e
      have : m.any (· == k) = true := List.any_eq_true.mpr ⟨k, h, by simp⟩
      rw [this]
      rfl
    · rw [decide_eq_false e, Bool.or_false]
  · rw [if_neg h, List.any_append]
    congr 1
    by_cases e : k = v
    · subst e; simp
    · have : ¬ v = k := fun z => e z.symm
      simp [e, this]
theorem dd1_len (m : List Str) (v : Str) : (if m.any (· == v) = true then m.length else m.length + 1) = (dd1 m v).length := by
  unfold dd1
  by_cases h : v ∈ m
  · have : m.any (· == v) = true := List.any_eq_true.mpr ⟨v, h, by simp⟩
    rw [if_pos h, if_pos this]
  · have : ¬ m.any (· == v) = true := fun z => by
      obtain ⟨x, hx, e⟩ := List.any_eq_true.mp z
      have e' : x = v := by simpa using e
      subst e'
      exact h hx
    rw [if_neg h, if_neg this, List.length_append]
    rfl
theorem dd_le : ∀ (xs m : List Str), (xs.foldl dd1 m).length ≤ m.length + xs.length
  | [], m => by simp
  | v :: r, m => by
    rw [List.foldl_cons]
    have h1 := dd_le r (dd1 m v)
    have h2 : (dd1 m v).length ≤ m.length + 1 := by
      unfold dd1
      split
      · omega
      · simp
    rw [List.length_cons]
    omega
theorem dd_more {xs : List Str} {i : Nat} {v : Str} (h : xs[i]? = some v) : dd (xs.take (i + 1)) = dd1 (dd (xs.take i)) v := by
  unfold dd
  rw [List.take_succ, h, List.foldl_append]
  rfl
/-- unlike ones: as many as there are -/
theorem dd_nodup : ∀ {xs : List Str} (m : List Str), (m ++ xs).Nodup → xs.foldl dd1 m = m ++ xs
  | [], m, _ => by simp
  | v :: r, m, h => by
    have hv : ¬ v ∈ m := fun z => by
      have := List.nodup_append.mp h
      exact this.2.2 v z v List.mem_cons_self rfl
    rw [List.foldl_cons]
    have e : dd1 m v = m ++ [v] := if_neg hv
    rw [e, dd_nodup (m ++ [v]) (by rw [List.append_assoc]; exact h), List.append_assoc]
    rfl
theorem dd_mem : ∀ (xs m : List Str) (k : Str), k ∈ xs.foldl dd1 m ↔ k ∈ m ∨ k ∈ xs
  | [], m, k => by simp
  | v :: r, m, k => by
    rw [List.foldl_cons, dd_mem r (dd1 m v) k]
    unfold dd1
    split
    · rename_i h
      constructor
      · rintro (h1 | h1)
        · exact .inl h1
        · exact .inr (List.mem_cons_of_mem _ h1)
      · rintro (h1 | h1)
        · exact .inl h1
        · rcases List.mem_cons.mp h1 with rfl | h1
          · exact .inl h
          · exact .inr h1
    · simp [or_assoc]
theorem dd_uniq : ∀ (xs m : List Str), m.Nodup → (xs.foldl dd1 m).Nodup
  | [], m, h => h
  | v :: r, m, h => by
    rw [List.foldl_cons]
    refine dd_uniq r _ ?_
    unfold dd1
    split
    · exact h
    · rename_i hv
      rw [List.nodup_append]
      exact ⟨h, by simp, fun a ha b hb e => by
        have : b = v := by simpa using hb
        subst this; subst e; exact hv ha⟩
/-- just unlike ones come to as many -/
theorem dd_full {xs : List Str} (h : (dd xs).length = xs.length) : xs.Nodup := by
  have key : ∀ (ys m : List Str), m.Nodup → (ys.foldl dd1 m).length = m.length + ys.length → (m ++ ys).Nodup := by
    intro ys
    induction ys with
    | nil => intro m hm _; simpa using hm
    | cons v r ih =>
      intro m hm e
      rw [List.foldl_cons] at e
      have hv : ¬ v ∈ m := fun z => by
        have e1 : dd1 m v = m := if_pos z
        rw [e1] at e
        have := dd_le r m
        rw [List.length_cons] at e
        omega
      have e1 : dd1 m v = m ++ [v] := if_neg hv
      rw [e1] at e
      have hm2 : (m ++ [v]).Nodup := by
        rw [List.nodup_append]
        exact ⟨hm, by simp, fun a ha b hb e2 => by
          have : b = v := by simpa using hb
          exact hv (this ▸ e2 ▸ ha)⟩
      have := ih (m ++ [v]) hm2 (by rw [e, List.length_append, List.length_cons]; simp; omega)
      rw [List.append_assoc] at this
      exact this
  have := key xs [] List.nodup_nil (by rw [List.length_nil, Nat.zero_add]; exact h)
  simpa using this
/-! ### a set of texts that can be walked -/
def signE (e : Int × Value) : Str := match e.2 with | .str z _ => z | _ => Str.empty
def TextE (P : Program) (w : World) (e : Int × Value) : Prop := ∃ z tk, e.2 = Value.str z tk ∧ e.1 = (PySem.strKind P w).hash z
/-- at a lies the set of the texts m -/
def SetW (P : Program) (w : World) (h : Heap) (a : Addr) (m : List Str) : Prop :=
  ∃ ob ms n tb, h.get? a = some ob ∧ ob.ExactSet ∧ ob.data = .set ms n tb ∧ (∀ e ∈ ms.toList, TextE P w e) ∧ (ms.toList.map signE).Perm m ∧
    ms.size < scanBound ∧ tb.fits ms.size = true ∧ Ris tb.place.toList ∧ (w.params.followText "set-order" = true ∨ tb.led = true)
section
variable {P : Program} {w : World} {A : Around} {E : Value → Shared → Prop} {s : Shared} {a : Addr} {m : List Str}
theorem text_elems {l : List (Int × Value)} (g : ∀ e ∈ l, TextE P w e) : ElemsOf (PySem.strKind P w) l := fun e he => by
  obtain ⟨z, tk, e1, e2⟩ := g e he
  exact ⟨⟨z, by rw [e1]; exact strKind_is P w z tk, e2⟩, by rw [e1]; rfl⟩
theorem text_is {e : Int × Value} (g : TextE P w e) (z : Str) : (PySem.strKind P w).is z e.2 = true ↔ signE e = z := by
  obtain ⟨y, tk, e1, _⟩ := g
  unfold signE
  rw [e1]
  show ((y == z) = true) ↔ y = z
  exact beq_iff_eq
/-- behind the laying: the table may be laid anew -/
theorem add_rest {gave : Bool → Sem Unit} (hg : ∀ (b : Bool) (s1 : Shared) (Q1 : Unit → Shared → Prop), Q1 () s1 → wpAny (model P w) A (gave b) Q1 E s1)
    {ob : Obj} {ms : Array (Int × Value)} {n : Nat} {tb : SetTable} (at0 : s.heap.get? a = some ob) (ex : ob.ExactSet) (da : ob.data = .set ms n tb)
    {ms1 : Array (Int × Value)} {tb1 : SetTable} (te : ∀ e ∈ ms1.toList, TextE P w e) (pm1 : (ms1.toList.map signE).Perm m)
    (few : ms1.size < scanBound) (fit : tb1.fits ms1.size = true) (ris : Ris tb1.place.toList) (led : w.params.followText "set-order" = true ∨ tb1.led = true) {dum : Bool} {R : Option Bool → Shared → Prop}
    (hR : ∀ h1, Heap.SameBut a s.heap h1 → SetW P w h1 a m → R (some true) { s with heap := h1 }) :
    wpAny (model P w) A (do
        storeSet a ms1 tb1
        if (!dum && tb1.tooFull) = true then do
            gave (relayAll tb1 ms1 (SetTable.grown ms1.size)).2.2
            storeSet a (relayAll tb1 ms1 (SetTable.grown ms1.size)).1 (relayAll tb1 ms1 (SetTable.grown ms1.size)).2.1
            pure (some true)
          else pure (some true)) R E s := by
  refine wpAny_bind (wpAny_storeSet_of at0 da ?_ (fits_of_scanBound few))
  have at1 := store_at (es' := ms1) (t' := tb1) at0 da
  have same1 := Heap.SameBut.update s.heap a (Obj.putSet ms1 tb1)
  split
  · have q1 := relayAll_perm tb1 ms1 (SetTable.grown ms1.size)
    have q2 := relayAll_fits tb1 ms1 (SetTable.grown ms1.size)
    have q3 := relayAll_ris tb1 ms1 (SetTable.grown ms1.size)
    have q4 := relayAll_led tb1 ms1 (SetTable.grown ms1.size)
    generalize relayAll tb1 ms1 (SetTable.grown ms1.size) = Z at q1 q2 q3 q4 ⊢
    obtain ⟨ms2, tb2, gv⟩ := Z
    dsimp only at q1 q2 q3 q4 ⊢
    have sz : ms2.size = ms1.size := by rw [← Array.length_toList, q1.length_eq, Array.length_toList]
    have few2 : ms2.size < scanBound := by rw [sz]; exact few
    refine wpAny_bind (hg _ _ _ ?_)
    refine wpAny_bind (wpAny_storeSet_of at1 rfl ?_ (fits_of_scanBound few2))
    have at2 := store_at (es' := ms2) (t' := tb2) at1 rfl
    refine wpAny_pure (hR _ (same1.trans (Heap.SameBut.update _ a _)) ?_)
    exact ⟨_, ms2, _, tb2, at2, ex, rfl, fun e he => te e (q1.mem_iff.mp he), (q1.map signE).trans pm1, few2, q2, q3, led.imp id fun z => by rw [q4]; exact z⟩
  · exact wpAny_pure (hR _ same1 ⟨_, ms1, _, tb1, at1, ex, rfl, te, pm1, few, fit, ris, led⟩)
theorem setW_add {k : Str} {tk : Tok} {Q : Bool → Shared → Prop} (W : SetW P w s.heap a m) (room : m.length + 1 < scanBound)
    (hQ : ∀ h1 b, Heap.SameBut a s.heap h1 → SetW P w h1 a (dd1 m k) → Q b { s with heap := h1 }) :
    wpAny (model P w) A (setAddHashed a (.str k tk) ((PySem.strKind P w).hash k)) Q E s := by
  obtain ⟨ob, ms, n, tb, at0, ex, da, te, pm, few, fit, ris, led⟩ := W
  have isk : (PySem.strKind P w).is k (.str k tk) = true := strKind_is P w k tk
  have sc : (Value.str k tk).scannable = true := rfl
  have el : ElemsOf (PySem.strKind P w) ms.toList := text_elems te
  unfold setAddHashed setAddHashedIn
  refine wpAny_holding (wpAny_bind (wpAny_setState_of at0 da fit ?_))
  dsimp only
  rw [byScan_of sc few el]
  simp only [↓reduceIte]
  unfold setAddByScan
  refine wpAny_bind (wpAny_bind (wpAny_rule (wpAny_bind (wpAny_setScan_of isk at0 da fit el ?_))))
  cases found : List.findIdx? (fun e => (PySem.strKind P w).is k e.2) ms.toList with
  | some j =>
    dsimp only
    obtain ⟨lt, ej, _⟩ := List.findIdx?_eq_some_iff_getElem.mp found
    have km : k ∈ m := pm.mem_iff.mp (List.mem_map.mpr ⟨_, List.getElem_mem lt, (text_is (te _ (List.getElem_mem lt)) k).mp ej⟩)
    refine wpAny_pure (wpAny_pure ?_)
    refine hQ s.heap _ (Heap.SameBut.refl a s.heap) ⟨ob, ms, n, tb, at0, ex, da, te, ?_, few, fit, ris, led⟩
    unfold dd1
    rw [if_pos km]
    exact pm
  | none =>
    dsimp only
    have km : k ∉ m := fun z => by
      obtain ⟨e, he, q⟩ := List.mem_map.mp (pm.mem_iff.mpr z)
      have c := List.findIdx?_eq_none_iff.mp found e he
      rw [(text_is (te e he) k).mpr q] at c
      cases c
    have q1 := layNew_perm tb ms ((PySem.strKind P w).hash k) (.str k tk)
    have q2 := layNew_fits tb ms ((PySem.strKind P w).hash k) (.str k tk)
    have q3 := layNew_ris tb ms ((PySem.strKind P w).hash k) (.str k tk) ris
    have q4 := layNew_led tb ms ((PySem.strKind P w).hash k) (.str k tk)
    generalize layNew tb ms ((PySem.strKind P w).hash k) (.str k tk) = Z at q1 q2 q3 q4 ⊢
    obtain ⟨ms1, tb1, dum, gv⟩ := Z
    dsimp only at q1 q2 q3 q4 ⊢
    rw [Array.toList_push] at q1
    have te1 : ∀ e ∈ ms1.toList, TextE P w e := fun e he => by
      rcases List.mem_append.mp (q1.mem_iff.mp he) with z | z
      · exact te e z
      · rw [List.mem_singleton.mp z]
        exact ⟨k, tk, rfl, rfl⟩
    have pm1 : (ms1.toList.map signE).Perm (dd1 m k) := by
      have q := q1.map signE
      rw [List.map_append] at q
      unfold dd1
      rw [if_neg km]
      exact q.trans (pm.append_right _)
    have sz : ms1.size = m.length + 1 := by
      rw [← Array.length_toList, q1.length_eq, List.length_append, ← pm.length_eq, List.length_map]
      rfl
    have few1 : ms1.size < scanBound := by rw [sz]; exact room
    have led1 : w.params.followText "set-order" = true ∨ tb1.led = true := led.imp id fun z => by rw [q4]; exact z
    refine wpAny_bind (?_ : wpAny _ _ (match gv with | true => rule "set.scan.the-table-gave-way" | false => pure ()) _ _ _)
    have hgv : ∀ (b : Bool) {s1 : Shared} {Q1 : Unit → Shared → Prop}, Q1 () s1 → wpAny (model P w) A (match b with | true => rule "set.scan.the-table-gave-way" | false => pure ()) Q1 E s1 := fun b s1 Q1 q => by
      cases b
      · exact wpAny_pure q
      · exact wpAny_rule q
    refine hgv _ ?_
    split
    · refine wpAny_bind ?_
      rw [hashByValue_scannable 8 sc]
      refine wpAny_pure ?_
      refine add_rest ?_ at0 ex da te1 pm1 few1 ?_ ?_ ?_ ?_
      · intro b s1 Q1 q; cases b <;> first | exact wpAny_pure q | exact wpAny_rule q
      · first | (split <;> first | exact q2 | exact SetTable.fits_plain_off q2) | exact q2
      · first | (split <;> exact q3) | exact q3
      · first | (split <;> exact led1) | exact led1
      · intro h1 sb r; dsimp only; exact wpAny_pure (hQ h1 _ sb r)
    · refine wpAny_bind (wpAny_pure ?_)
      simp only [↓reduceIte]
      refine add_rest ?_ at0 ex da te1 pm1 few1 q2 q3 led1 ?_
      · intro b s1 Q1 q; cases b <;> first | exact wpAny_pure q | exact wpAny_rule q
      · intro h1 sb r; dsimp only; exact wpAny_pure (hQ h1 _ sb r)
/-- a new set -/
theorem new_set (x : Value) {Q1 : Value → Shared → Prop}
    (q : ∀ tb : SetTable, tb = .fresh 0 0 (!w.params.followText "set-order") → Q1 (.ref s.heap.objs.size) { s with heap := s.heap.push { cls := .type "set", dict := none, data := .set #[] 0 tb } }) :
    codeAny (model P w) A (.call (.builtin "set.__new__") ⟨[.type "set", x], []⟩) (wants Q1 E) s := by
  refine codeAny_of_tree (?_ : wpAny _ A.in1 (do checkBuiltinCall "set.__new__" ⟨[.type "set", x], []⟩; again (.builtin "set.__new__" ⟨[.type "set", x], []⟩)) _ _ s)
  refine wpAny_bind (wpAny_of_eq (PySem.F.newCall_set_1 x) (wpAny_pure ⟨plainId_quiet PySem.F.plain_set_new _, codeAny_builtin PySem.F.entry_set_new (?_ : wpAny _ _ _ _ _ s)⟩))
  rw [Around.under_plainId PySem.F.plain_set_new _]
  have below := sub_set_self
  unfold Builtin.«set.__new__» Builtin.Frozenset.newClass
  obtain ⟨h0, g0, d0, t0, o0⟩ := s
  dsimp only
  wp_walk
  refine wpAny_askSetting (wpAny_pure ?_)
  dsimp only
  simp only [newObj]
  exact wpAny_bind (wpAny_alloc (wpAny_pure (wpAny_pure (q _ rfl))))
theorem setW_fresh {h : Heap} (g : h.get? a = some { cls := .type "set", dict := none, data := .set #[] 0 (.fresh 0 0 (!w.params.followText "set-order")) }) : SetW P w h a [] := by
  refine ⟨_, #[], 0, _, g, ⟨rfl, rfl, rfl⟩, rfl, (fun e he => by simp at he), (by simp), (by decide), (by rfl), List.Pairwise.nil, ?_⟩
  show _ ∨ (!w.params.followText "set-order") = true
  cases w.params.followText "set-order"
  · exact .inr rfl
  · exact .inl rfl
end
section
variable {prog : Program} {w : World} {A : Around} {R : Result → Shared → Prop} {I : Addr} {fp wr : List Addr} {G : Array GenState → Array GenState → Prop} {n : Nat} {Pn : Nat → Value → Prop} {St : Nat → Shared → Prop}
/-- S holds the unlike ones of the first i -/
def SetAtS (prog : Program) (w : World) (h : Heap) (S : Addr) (xs : List Str) : Prop := SetW prog w h S (dd xs)
theorem set_loop (W : WalksS prog w A.in1 I fp wr G n Pn St) (S : Addr) (out : S ∉ fp) (xs : List Str) (size : xs.length = n) (room : n + 1 < scanBound)
    (vals : ∀ i v, Pn i v → ∃ t, v = .str (xs.getD i Str.empty) t) :
    ∀ (m i : Nat) (s : Shared), i + m = n → St i s → SetAtS prog w s.heap S (xs.take i) →
      (∀ s', Moved (S :: wr) G s s' → SetAtS prog w s'.heap S xs → R (.ok (.ret .none)) s') →
      codeAny (model prog w) A (.builtin "set.update.loop" ⟨[.ref S, .ref I], []⟩) R s := by
  have outw : S ∉ wr := fun z => out (W.sub _ z)
  have more : ∀ b ∈ wr, b ∈ S :: wr := fun b z => List.mem_cons_of_mem _ z
  have stay : ∀ {s s' : Shared} {ys : List Str}, Moved wr G s s' → SetAtS prog w s.heap S ys → SetAtS prog w s'.heap S ys := fun mv hS => by
    obtain ⟨o, es, ep, tb, ho, rest⟩ := hS
    exact ⟨o, es, ep, tb, mv.heap S _ outw ho, rest⟩
  intro m
  induction m with
  | zero =>
    intro i s im hst hS hR
    have ei : i = n := by omega
    subst ei
    rw [← size, List.take_length] at hS
    refine codeAny_builtin PyProof.Rows.F.entry_set_update_loop (?_ : wpAny _ _ _ _ _ s)
    rw [Around.under_plainId PyProof.Rows.F.plain_set_update_loop _]
    show wpAny _ A.in1 (pyNext (.ref I) >>= _) _ _ s
    exact wpAny_bind (W.done s _ _ hst fun s' mv => wpAny_pure (hR s' (mv.mono more) (stay mv hS)))
  | succ m ih =>
    intro i s im hst hS hR
    have lt : i < n := by omega
    refine codeAny_builtin PyProof.Rows.F.entry_set_update_loop (?_ : wpAny _ _ _ _ _ s)
    rw [Around.under_plainId PyProof.Rows.F.plain_set_update_loop _]
    show wpAny _ A.in1 (pyNext (.ref I) >>= _) _ _ s
    refine wpAny_bind (W.item i s _ _ lt hst fun v s1 pv st1 mv => ?_)
    obtain ⟨t, rfl⟩ := vals i v pv
    have e : xs[i]? = some (xs.getD i Str.empty) := by
      rw [List.getD_eq_getElem?_getD, List.getElem?_eq_getElem (by omega)]
      rfl
    generalize xs.getD i Str.empty = x at e
    have hS1 := stay mv hS
    show wpAny _ A.in1 (holding [Value.str x t] (setAdd S (.str x t)) >>= _) _ _ s1
    refine wpAny_bind (wpAny_holding ?_)
    unfold setAdd
    refine wpAny_holding (wpAny_bind ((PySem.strKind prog w).pyHash (k := x) (strKind_is _ _ _ _) ?_))
    have few : (dd (xs.take i)).length + 1 < scanBound := by
      have := dd_le (xs.take i) []
      have h2 : (xs.take i).length ≤ n := by rw [List.length_take]; omega
      have h3 : (dd (xs.take i)).length ≤ (xs.take i).length := by simpa [dd] using this
      omega
    refine setW_add (s := { s1 with toks := s1.toks + 1 }) hS1 few fun h2 _ same hS2 => ?_
    have next : SetAtS prog w h2 S (xs.take (i + 1)) := by
      unfold SetAtS
      rw [dd_more e]
      exact hS2
    refine wpAny_pure ⟨plainId_quiet PyProof.Rows.F.plain_set_update_loop _, ih (i + 1) _ (by omega) (W.frame _ s1 _ _ st1 (Nat.le_succ _) fun b hb o z => ?_) next fun s3 mv3 hS3 => hR s3 (Moved.trans W.gtrans ((mv.mono more).then_heap (Nat.le_succ _) fun b o hb z => ?_) mv3) hS3⟩
    · rw [same.2 b fun q => out (q ▸ hb)]
      exact z
    · rw [same.2 b fun q => hb (q ▸ List.mem_cons_self)]
      exact z
end
section
variable {prog : Program} {w : World} {A : Around} {E : Value → Shared → Prop} {s : Shared}
/-- an empty set, new -/
abbrev set0 (led : Bool) : Obj := { cls := .type "set", dict := none, data := .set #[] 0 (.fresh 0 0 led) }
set_option maxHeartbeats 3200000 in
/-- set(xs), xs a list of texts -/
theorem set_of_list {l : Addr} {its : Array Value} {xs : List Str} {Q : Value → Shared → Prop} (calm : A.handled = none) (hl : s.heap.IsList l its) (hi : StrsAre its.toList xs) (room : xs.length + 1 < scanBound)
    (q : ∀ (h2 : Heap) (tk : Nat), SetAtS prog w h2 s.heap.objs.size xs → (∀ b o, b < s.heap.objs.size → s.heap.get? b = some o → h2.get? b = some o) → Q (.ref s.heap.objs.size) { s with heap := h2, toks := tk }) :
    wpAny (model prog w) A (call (.type "set") [.ref l]) Q E s := by
  obtain ⟨_, _, way⟩ := PySem.F.called_set.mro
  have f1 := PySem.F.called_set.made
  have f2 := PySem.F.called_set.sub
  have f3 := PySem.F.called_set.notType
  have f4 := PySem.F.called_set.canCreate
  have f5 := PySem.F.typeCall_set_1 (.ref l)
  refine wpAny_call (codeAny_of_tree (?_ : wpAny _ _ (callAny (.type "set") _) _ _ _))
  refine wpAny_pure ⟨Code.quiet_builtin _ (by decide +kernel), codeAny_builtin PySem.F.entry_type_call (?_ : wpAny _ _ _ _ _ _)⟩
  rw [Around.under_plain (weight_type_call_type "set" [.ref l] []) rfl]
  repeat (any_goals (first | assumption | wp_step))
  refine codeAny_mono (new_set (.ref l) (E := E) (Q1 := fun u s1 => ∃ led : Bool, u = .ref s.heap.objs.size ∧ s1 = { s with heap := s.heap.push (set0 led) } ∧ led = !w.params.followText "set-order") fun tb e => ⟨_, rfl, by rw [e], rfl⟩) fun r s1 hr => ?_
  cases r with
  | error e => exact hr
  | ok fl =>
    cases fl with
    | next => exact hr.elim
    | brk => exact hr.elim
    | cont => exact hr.elim
    | ret u =>
      obtain ⟨led, rfl, rfl, eled⟩ := hr
      have g0 : (s.heap.push (set0 led)).get? s.heap.objs.size = some (set0 led) := Heap.get?_push_size _ rfl
      have ty : Shared.TypeIs { s with heap := s.heap.push (set0 led) } (.ref s.heap.objs.size) "set" := ⟨_, g0, rfl⟩
      have f6 := PySem.F.called_set.init.lookup
      have f7 := PySem.F.called_set.init.bind (.ref s.heap.objs.size)
      repeat (any_goals (first | assumption | wp_step))
      refine codeAny_mono (codeAny_call_builtin (R := wants (fun r s2 => r = .none ∧ ∃ h2 tk, s2 = { s with heap := h2, toks := tk } ∧ SetAtS prog w h2 s.heap.objs.size xs ∧ (∀ b o, b < s.heap.objs.size → s.heap.get? b = some o → h2.get? b = some o)) E)
        PySem.F.called_set.init.plain PySem.F.entry_set_init (check_set_init_1 ty ?_)) fun r2 s2 hr2 => ?_
      · obtain ⟨⟨c, d, da, sl⟩, ol, cl, nl, dl⟩ := hl
        simp only at cl dl
        subst cl dl
        have ol1 : (s.heap.push (set0 led)).get? l = some { cls := .type "list", dict := d, data := .seq its nl, slots := sl } := Heap.get?_push_of_some _ ol
        have f8 := PySem.F.sub_list_set
        have f9 := PySem.F.sub_list_frozenset
        have f10 : (Value.type "list" == Value.type "dict") = false := by decide
        have hl1 : (s.heap.push (set0 led)).IsList l its := ⟨_, ol1, rfl, nl, rfl⟩
        unfold Builtin.«set.__init__» noKeywords Builtin.Frozenset.updateFrom
        generalize hPI : pyIter = PI
        wp_walk
        subst hPI
        refine wpAny_pyIter_list hl1 (wpAny_bind (wpAny_runValue ?_))
        have below : l < s.heap.objs.size := Heap.lt_size ol
        have sz1 : (s.heap.push (set0 led)).objs.size = s.heap.objs.size + 1 := Heap.size_push _ _
        have n1 : l ≠ (s.heap.push (set0 led)).objs.size := by
          rw [sz1]
          exact Nat.ne_of_lt (Nat.lt_succ_of_lt below)
        have out : s.heap.objs.size ∉ [(s.heap.push (set0 led)).objs.size, l] := by
          rw [sz1]
          simp only [List.mem_cons, List.not_mem_nil, or_false, not_or]
          exact ⟨Nat.ne_of_lt (Nat.lt_succ_self _), Nat.ne_of_gt below⟩
        have size : xs.length = its.size := by rw [← StrsAre.len_eq hi, Array.length_toList]
        have vals : ∀ (i : Nat) (v : Value), its[i]? = some v → ∃ t, v = .str (xs.getD i Str.empty) t := fun i v z => SS.strs_at hi i v (by rw [Array.getElem?_toList]; exact z)
        refine set_loop ((Walks.list (show A.in1.in1.in1.handled = none by simp [calm]) _ l n1 its).toS) s.heap.objs.size out xs size (by rw [← size]; exact room) vals its.size 0 _ (by omega) ⟨⟨_, Heap.get?_push_size _ rfl, rfl, rfl⟩, (hl1.push _)⟩ ?start ?stop
        case start =>
          have g1 : ((s.heap.push (set0 led)).push { cls := .type "list_iterator", data := .fields #[.ref l, .int 0 0] }).get? s.heap.objs.size = some (set0 led) := Heap.get?_push_of_some _ g0
          exact setW_fresh (g1.trans (by rw [eled]))
        case stop =>
          rintro ⟨h2, g2, d2, tk2, os2⟩ mv hS
          obtain rfl : g2 = s.gens := mv.gens
          obtain rfl : d2 = s.drawn := mv.drawn
          obtain rfl : os2 = s.os := mv.os
          refine wpAny_pure (?_ : wpAny _ _ (ret Value.none) _ _ _)
          refine wpAny_pure ⟨rfl, h2, tk2, rfl, hS, fun b o hb z => mv.heap b o ?_ (Heap.get?_push_of_some _ (Heap.get?_push_of_some _ z))⟩
          simp only [List.mem_cons, List.not_mem_nil, or_false, not_or]
          exact ⟨Nat.ne_of_lt hb, by rw [sz1]; exact Nat.ne_of_lt (Nat.lt_succ_of_lt hb)⟩
      · cases r2 with
        | error e => exact hr2
        | ok fl2 =>
          cases fl2 with
          | next => exact hr2.elim
          | brk => exact hr2.elim
          | cont => exact hr2.elim
          | ret r =>
            obtain ⟨rfl, h2, tk, rfl, hS, keep⟩ := hr2
            repeat (any_goals (first | assumption | wp_step))
            exact q _ _ hS keep
end
/-- len(set(xs)) -/
def tLenSetS (K : PySem.W.Frag) (ta : TE) : TE := fun σ H Q => ta σ H fun x H1 => ∃ (l : Addr) (xs : List Str), x = .ref l ∧ SqL K H1 l (xs.map V.str) ∧ xs.length ≤ 1000 ∧ Q (.int ((dd xs).length : Nat)) H1
theorem pe_lenSetS {X : Cx} (K : PySem.W.Frag) {a : Expr} {ta : TE} {p p2 q pos : Pos} (hc : X.calm = true) (hm : X.mg "len" = none) (hm2 : X.mg "set" = none) (ha : PE X a ta) (hk : X.K = K := by rfl) (hg : Gl X "len" := by rfl) (hg2 : Gl X "set" := by rfl)
    (na : starEach [a] X.env = (false, eval a X.env) :: starEach [] X.env := by rfl) : PE X (.Call (.Name "len" p) [.Call (.Name "set" p2) [a] [] q] [] pos) (tLenSetS K ta) := by
  subst hk
  refine ⟨fun pins s σ H Q I h => ?_⟩
  refine Call_ (ld_blt I hg hm boot_len (PyProof.Rows.callWith_builtin1 (PyProof.Rows.args_cons ?_ rfl) rfl rfl))
  refine Call_ (ld_blt I hg2 hm2 boot_set ?_)
  refine PyProof.Rows.callWith_type1 (PyProof.Rows.args_cons (thn (ha.run pins s σ H _ I h) fun v s1 ⟨x, H1, I1, r1, q1⟩ => PyProof.Rows.args_nil ?_) na) na rfl
  obtain ⟨l, xs, rfl, hq, small, q1⟩ := q1
  cases r1
  obtain ⟨its, r, pl, hz⟩ := I1.list hq
  refine set_of_list (I1.ok.hd hc) pl.isList (by simpa using strsAre_of r) (by unfold scanBound; omega) fun h2 tk hS keep => PyProof.Rows.args_nil ?_
  obtain ⟨o, es, ep, t, ho, hex, hd, _, pm, _, hf, _⟩ := hS
  have hn : es.size = (dd xs).length := by rw [← pm.length_eq, List.length_map, Array.length_toList]
  have I2 : Inv X pins σ H1 { s1 with heap := h2, toks := tk } := I1.kept fun b o e => keep b o (Heap.lt_size e) e
  have few := dd_le xs []
  have few2 : (dd xs).length ≤ xs.length := by simpa [dd] using few
  exact call_len_set ho hex hd hf (by rw [hn]; omega) ⟨.int ((dd xs).length : Nat), H1, I2.tok _, ⟨_, by rw [hn]⟩, q1⟩
/-- sorted(set(xs)) -/
def tSortSetS (K : PySem.W.Frag) (ta : TE) : TE := fun σ H Q => ta σ H fun x H1 => ∃ (l : Addr) (xs : List Str), x = .ref l ∧ SqL K H1 l (xs.map V.str) ∧ xs.length < 64 ∧
  ∀ (ys : List Str) (p : Addr), ys.Perm (dd xs) → sortedS ys = true → H1 p = none → Q (.ref p) (upd H1 p (.lst (ys.map V.str)))
theorem texts_are {P : Program} {w : World} : ∀ {es : List (Int × Value)}, (∀ e ∈ es, TextE P w e) → StrsAre (es.map (·.2)) (es.map signE)
  | [], _ => .nil
  | e :: es, h => by
    obtain ⟨z, tk, e1, _⟩ := h e List.mem_cons_self
    have e2 : signE e = z := by
      unfold signE
      rw [e1]
    rw [List.map_cons, List.map_cons, e1, e2]
    exact .cons _ _ (texts_are fun x hx => h x (List.mem_cons_of_mem _ hx))
theorem strs_perm {us vs : List Value} (p : us.Perm vs) : ∀ {xs : List Str}, StrsAre vs xs → ∃ ys, StrsAre us ys ∧ ys.Perm xs := by
  induction p with
  | nil => exact fun h => ⟨_, h, .refl _⟩
  | cons x _ ih =>
    intro xs h
    cases h with
    | cons z tk h =>
      obtain ⟨ys, h1, h2⟩ := ih h
      exact ⟨_, .cons z tk h1, h2.cons z⟩
  | swap x y l =>
    intro xs h
    cases h with
    | cons z tk h =>
      cases h with
      | cons z2 tk2 h => exact ⟨_, .cons z2 tk2 (.cons z tk h), .swap z z2 _⟩
  | trans _ _ ih1 ih2 =>
    intro xs h
    obtain ⟨ys, h1, h2⟩ := ih2 h
    obtain ⟨zs, h3, h4⟩ := ih1 h1
    exact ⟨zs, h3, h4.trans h2⟩
theorem pe_sortSetS {X : Cx} (K : PySem.W.Frag) {a : Expr} {ta : TE} {p p2 q pos : Pos} (hc : X.calm = true) (hm : X.mg "sorted" = none) (hm2 : X.mg "set" = none) (ha : PE X a ta) (hk : X.K = K := by rfl) (hg : Gl X "sorted" := by rfl) (hg2 : Gl X "set" := by rfl)
    (na : starEach [a] X.env = (false, eval a X.env) :: starEach [] X.env := by rfl) : PE X (.Call (.Name "sorted" p) [.Call (.Name "set" p2) [a] [] q] [] pos) (tSortSetS K ta) := by
  subst hk
  refine ⟨fun pins s σ H Q I h => ?_⟩
  refine Call_ (ld_blt I hg hm boot_sorted (PyProof.Rows.callWith_builtin1 (PyProof.Rows.args_cons ?_ rfl) rfl rfl))
  refine Call_ (ld_blt I hg2 hm2 boot_set ?_)
  refine PyProof.Rows.callWith_type1 (PyProof.Rows.args_cons (thn (ha.run pins s σ H _ I h) fun v s1 ⟨x, H1, I1, r1, q1⟩ => PyProof.Rows.args_nil ?_) na) na rfl
  obtain ⟨l, xs, rfl, hq, small, q1⟩ := q1
  cases r1
  obtain ⟨its, r, pl, hz⟩ := I1.list hq
  refine set_of_list (I1.ok.hd hc) pl.isList (by simpa using strsAre_of r) (by unfold scanBound; omega) fun h2 tk hS keep => PyProof.Rows.args_nil ?_
  obtain ⟨o, ms, n, tb, ho, hex, hd, te, pm, few, fit, ris, led⟩ := hS
  have I2 : Inv X pins σ H1 { s1 with heap := h2, toks := tk } := I1.kept fun b o e => keep b o (Heap.lt_size e) e
  have few2 : (dd xs).length ≤ xs.length := by
    have := dd_le xs []
    simpa [dd] using this
  refine Calls.call_function_entry PyProof.Rows.kind_sorted PyProof.Rows.plain_sorted PyProof.Rows.entry_sorted (PyProof.Rows.args_sorted1 _) ?_
  unfold Builtin.«sorted»
  refine wpAny_bind (m := checkCount "sorted" 1 1 _) (wpAny_pure ?_)
  refine wpAny_bind (collect_set (A := X.A.in1) (I1.ok.hd hc) ⟨o, ho, hex.1, hd⟩ fit few ris led fun s3 vs k3 z3 g3 o3 p3 => ?_)
  obtain ⟨zs, sA, pz⟩ := strs_perm p3 (texts_are te)
  have vl : vs.length < 64 := by
    have e1 := StrsAre.len_eq sA
    have e2 := pz.length_eq
    have e3 := pm.length_eq
    omega
  refine wpAny_bind (wpAny_newList ?_ (small64 vl))
  have at4 : (s3.heap.push (seqObj "list" vs.toArray 0)).get? s3.heap.objs.size = some (seqObj "list" vs.toArray 0) := Heap.get?_push_size _ rfl
  refine wpAny_bind (wpAny_holding (wpAny_call_entry PyProof.Rows.slot_list_sort ⟨_, at4, rfl⟩ PyProof.Rows.entry_list_sort
    (list_sort_treeK strKind_oneLt (s := { s3 with heap := s3.heap.push (seqObj "list" vs.toArray 0) }) at4 sA.keysOf (fun v1 v2 rest e => keyKind_strs (by rw [← e]; exact sA)) vl fun st2 hp hs => ⟨_, rfl, ?_⟩)
    (PyProof.Rows.args_list_sort _)))
  obtain ⟨ys, y1, y2, y3⟩ := sorted_out_str sA hp hs
  obtain ⟨n5, at5⟩ := PyProof.Rows.sortedHeap_at (vs := vs) (out := (arrOf st2).map (·.2)) at4
  have yl : (ys.map V.str).length ≤ sizeLine := by
    rw [List.length_map, y2.length_eq, ← StrsAre.len_eq sA]
    exact small64 vl
  have k4 : ∀ b u, s1.heap.get? b = some u → (PyProof.Rows.sortedHeap (s3.heap.push (seqObj "list" vs.toArray 0)) s3.heap.objs.size vs ((arrOf st2).map (·.2))).get? b = some u := fun b u e => by
    have e3 := k3 b u (keep b u (Heap.lt_size e) e)
    have lt3 : b < s3.heap.objs.size := Heap.lt_size e3
    rw [PyProof.Rows.sortedHeap_old (Nat.ne_of_lt lt3) (by rw [size_push']; exact Nat.lt_succ_of_lt lt3)]
    exact Heap.get?_push_of_some _ e3
  have up : s1.heap.objs.size ≤ s3.heap.objs.size := Nat.le_trans (Nat.le_of_lt (Heap.lt_size ho)) z3
  have fr : H1 s3.heap.objs.size = none := I1.hok.fresh up
  have J : Inv X pins σ (upd H1 s3.heap.objs.size (.lst (ys.map V.str))) { s1 with heap := PyProof.Rows.sortedHeap (s3.heap.push (seqObj "list" vs.toArray 0)) s3.heap.objs.size vs ((arrOf st2).map (·.2)), gens := s3.gens, drawn := s3.drawn, toks := s3.toks } :=
    I1.call (ch := []) (Un.laid k4 up fr) (I1.hok.laid k4 up ⟨yl, ((arrOf st2).map (·.2)).toList, n5, vals_of_strs y1, by rw [Array.toArray_toList]; exact at5⟩) (by rw [g3]; exact I1.bare) (fun _ z => nomatch z)
  have es : ({ s3 with heap := PyProof.Rows.sortedHeap (s3.heap.push (seqObj "list" vs.toArray 0)) s3.heap.objs.size vs ((arrOf st2).map (·.2)) } : Shared) = { s1 with heap := PyProof.Rows.sortedHeap (s3.heap.push (seqObj "list" vs.toArray 0)) s3.heap.objs.size vs ((arrOf st2).map (·.2)), gens := s3.gens, drawn := s3.drawn, toks := s3.toks } := by
    cases s3
    cases s1
    cases o3
    rfl
  refine wpAny_pure ⟨_, rfl, ?_⟩
  show EP X pins σ Q (.ref s3.heap.objs.size) { s3 with heap := PyProof.Rows.sortedHeap (s3.heap.push (seqObj "list" vs.toArray 0)) s3.heap.objs.size vs ((arrOf st2).map (·.2)) }
  rw [es]
  exact ⟨.ref _, _, J, rfl, q1 ys _ (y2.trans (pz.trans pm)) y3 fr⟩
end Dear

namespace Dear
open PySem PySem.Spec PyProof.Rows L2
theorem sz_lit {n : Nat} (h : n ≤ 1000) : n ≤ sizeLine := Nat.le_of_lt (small1000 h)
theorem strOk_asc {z : Str} (h : ∀ c ∈ z.cps.toList, c < 128) : PyData.strOk z = true := by
  unfold PyData.strOk
  rw [Array.all_eq_true']
  intro c hc
  have := h c (by simpa using hc)
  simp
  omega
end Dear

namespace Dear
open PySem PySem.Spec PyProof.Rows L2
/-! ### slices of texts -/
def sgn (c : Nat) : Str := ⟨#[c]⟩
theorem str_one {z : Str} (h : z.length = 1) : ∃ c, z = ⟨#[c]⟩ := by
  obtain ⟨⟨l⟩⟩ := z
  match l, h with
  | [c], _ => exact ⟨c, rfl⟩
theorem inV_strs (z : Str) : ∀ ys : List Str, inV (.str z) (ys.map V.str) = decide (z ∈ ys)
  | [] => by simp [inV]
  | y :: ys => by
    have ih := inV_strs z ys
    unfold inV at ih ⊢
    rw [List.map_cons, List.any_cons, ih]
    by_cases e : y = z
    · subst e
      simp [eqV]
    · have e' : ¬ z = y := fun q => e q.symm
      have h1 : eqV (.str y) (.str z) = false := by simp [eqV, e]
      simp [h1, e']
theorem flat_str (ys : List Str) : (ys.map V.str).all flatV = true := by
  rw [List.all_eq_true]
  intro x hx
  obtain ⟨y, _, rfl⟩ := List.mem_map.mp hx
  rfl
theorem sgn_inj {a b : Nat} (h : sgn a = sgn b) : a = b := by
  have := congrArg (fun z : Str => z.cps.toList) h
  simpa [sgn] using this
/-- the text of these code points -/
def txt (l : List Nat) : Str := ⟨l.toArray⟩
theorem txt_list (l : List Nat) : (txt l).cps.toList = l := List.toList_toArray ..
theorem txt_length (l : List Nat) : (txt l).length = l.length := List.size_toArray ..
theorem txt_of (z : Str) : z = txt z.cps.toList := by
  cases z
  rfl
theorem str_len (a b : Str) : (a ++ b).length = a.length + b.length := by
  show (a.cps ++ b.cps).size = _
  exact Array.size_append
theorem txt_inj {a b : List Nat} (h : txt a = txt b) : a = b := by
  have := congrArg (fun z : Str => z.cps.toList) h
  simpa [txt_list] using this
theorem txt_app (a b : List Nat) : txt a ++ txt b = txt (a ++ b) := by
  show (⟨a.toArray ++ b.toArray⟩ : Str) = ⟨(a ++ b).toArray⟩
  simp
theorem cut_txt (l : List Nat) (lo hi : Option Int) : cutS (txt l) lo hi = txt ((l.drop (HT.sIx l.length 0 lo)).take (HT.sIx l.length l.length hi - HT.sIx l.length 0 lo)) := by
  unfold cutS
  rw [txt_list, txt_length]
  rfl
theorem cut_pre (l : List Nat) (j : Nat) : cutS (txt l) none (some (j : Int)) = txt (l.take j) := by
  rw [cut_txt, HT.sIx_none, HT.sIx_nat, List.drop_zero, Nat.sub_zero]
  congr 1
  by_cases h : j ≤ l.length
  · rw [Nat.min_eq_left h]
  · rw [Nat.min_eq_right (by omega), List.take_length, List.take_of_length_le (by omega)]
theorem cut_from (l : List Nat) (j : Nat) : cutS (txt l) (some (j : Int)) none = txt (l.drop j) := by
  rw [cut_txt, HT.sIx_none, HT.sIx_nat]
  congr 1
  by_cases h : j ≤ l.length
  · rw [Nat.min_eq_left h, List.take_of_length_le (by rw [List.length_drop]; exact Nat.le_refl _)]
  · rw [Nat.min_eq_right (by omega), List.drop_length, List.drop_of_length_le (by omega), List.take_nil]
theorem cut_last0 : cutS (txt []) (some (-1)) none = "" := by decide +kernel
theorem cut_last (l : List Nat) (c : Nat) : cutS (txt (l ++ [c])) (some (-1)) none = txt [c] := by
  rw [cut_txt, HT.sIx_none]
  have e1 : HT.sIx (l ++ [c]).length 0 (some (-1)) = l.length := by
    show (if (-1 : Int) < 0 then (-1 + ((l ++ [c]).length : Int)).toNat else min (-1 : Int).toNat (l ++ [c]).length) = l.length
    rw [if_pos (by decide), List.length_append]
    show (-1 + ((l.length + 1 : Nat) : Int)).toNat = _
    omega
  rw [e1, List.drop_left, List.take_of_length_le]
  rw [List.length_append]
  show 1 ≤ l.length + 1 - l.length
  omega
theorem cut_init {l : List Nat} {e : Nat} : cutS (txt (l ++ [e])) none (some (-1)) = txt l := by
  have e1 : HT.sIx (l ++ [e]).length (l ++ [e]).length (some (-1)) = l.length := by
    show (if (-1 : Int) < 0 then (-1 + ((l ++ [e]).length : Int)).toNat else min (-1 : Int).toNat (l ++ [e]).length) = l.length
    rw [if_pos (by decide), List.length_append]
    show (-1 + ((l.length + 1 : Nat) : Int)).toNat = _
    omega
  rw [cut_txt, HT.sIx_none, e1, List.drop_zero, Nat.sub_zero, List.take_left]
theorem at_last {l : List Nat} {e : Nat} : atI (txt (l ++ [e])).cps.toList (-1) = some e := by
  rw [txt_list]
  unfold atI ixN
  rw [if_neg (by decide), if_pos (by rw [List.length_append]; show -((l.length + 1 : Nat) : Int) ≤ -1; omega)]
  have e1 : (-1 + ((l ++ [e]).length : Int)).toNat = l.length := by
    rw [List.length_append]
    show (-1 + ((l.length + 1 : Nat) : Int)).toNat = _
    omega
  rw [e1]
  show (l ++ [e])[l.length]? = some e
  rw [List.getElem?_append_right (Nat.le_refl _), Nat.sub_self]
  rfl
theorem sgn_txt (c : Nat) : sgn c = txt [c] := rfl
theorem txt_snoc (l : List Nat) (c : Nat) : txt l ++ sgn c = txt (l ++ [c]) := by
  show (⟨l.toArray ++ #[c]⟩ : Str) = ⟨(l ++ [c]).toArray⟩
  simp
/-- the sign ahead of the j-th one -/
def aheadOf (l : List Nat) (j : Nat) : Str := cutS (cutS (txt l) none (some (j : Int))) (some (-1)) none
theorem ahead_zero (l : List Nat) : aheadOf l 0 = "" := by
  unfold aheadOf
  rw [cut_pre, List.take_zero]
  exact cut_last0
theorem ahead_succ {l : List Nat} {j : Nat} {c : Nat} (h : l[j]? = some c) : aheadOf l (j + 1) = txt [c] := by
  unfold aheadOf
  rw [cut_pre, List.take_add_one, h, Option.toList_some, cut_last]
end Dear

namespace Dear
open PySem PySem.Spec PyProof.Rows L2
/-! ### text * number -/
theorem fold_rep (a : Array Nat) : ∀ (k : Nat) (acc : Array Nat), ((List.replicate k a).foldl (· ++ ·) acc).toList = acc.toList ++ (List.replicate k a.toList).flatten
  | 0, acc => by simp
  | k + 1, acc => by
    rw [List.replicate_succ, List.replicate_succ, List.foldl_cons, fold_rep a k, List.flatten_cons, Array.toList_append, List.append_assoc]
def repT (l : List Nat) (k : Nat) : List Nat := (List.replicate k l).flatten
theorem repT_len (l : List Nat) (k : Nat) : (repT l k).length = k * l.length := by
  unfold repT
  simp
def rRepS : R2 := fun x y H Q => ∃ (l : List Nat) (n : Int), x = .str (txt l) ∧ y = .int n ∧ 0 ≤ n ∧ n ≤ 1000 ∧ l.length ≤ 1000 ∧ Q (.str (txt (repT l n.toNat))) H
theorem op_repS {X : Cx} : OpR X (binaryOp .Mult) rRepS := by
  intro pins s σ H x y v u Q I rx ry h
  obtain ⟨l, n, rfl, rfl, h0, h1, hl, q⟩ := h
  obtain ⟨t, rfl⟩ := rx
  obtain ⟨t', rfl⟩ := ry
  have ln := txt_length l
  have big : l.length * n.toNat ≤ 1000 * 1000 := Nat.mul_le_mul hl (by omega)
  refine PySem.P.mul_str (x := txt l) (by rw [decide_eq_false (by omega), decide_eq_false (by omega)]; rfl) (fun h2 _ => ?_) (fun _ _ => ?_) ?_
  · have h3 : 0 < n := by omega
    have h4 : ((txt l).length : Int) ≤ (2 ^ 63 - 1) / n := by
      rw [Int.le_ediv_iff_mul_le h3, ln]
      have e : ((l.length * n.toNat : Nat) : Int) = (l.length : Int) * n := by
        rw [Int.natCast_mul, Int.toNat_of_nonneg h0]
      rw [← e]
      omega
    omega
  · unfold Builtin.Str.tooLong
    rw [ln]
    refine decide_eq_false ?_
    have := sz_lit (n := 0) (by decide)
    rw [sizeLine_eq]
    omega
  · by_cases e1 : n < 1
    · rw [if_pos e1]
      have e2 : n = 0 := by omega
      subst e2
      exact ⟨by decide, .str (txt (repT l 0)), H, I.tok _, ⟨_, rfl⟩, q⟩
    · rw [if_neg e1]
      by_cases e2 : (n == 1 || (txt l).length == 0) = true
      · rw [if_pos e2]
        have e3 : repT l n.toNat = l := by
          rw [ln] at e2
          simp only [Bool.or_eq_true, beq_iff_eq] at e2
          rcases e2 with e2 | e2
          · subst e2
            simp [repT]
          · have e3 : l = [] := List.length_eq_zero_iff.mp e2
            subst e3
            simp [repT]
        rw [e3] at q
        exact ⟨.str (txt l), H, I, ⟨_, rfl⟩, q⟩
      · rw [if_neg e2]
        have e3 : (⟨(List.replicate n.toNat (txt l).cps).foldl (· ++ ·) #[]⟩ : Str) = txt (repT l n.toNat) := by
          rw [txt_of ⟨(List.replicate n.toNat (txt l).cps).foldl (· ++ ·) #[]⟩]
          congr 1
          show ((List.replicate n.toNat (txt l).cps).foldl (· ++ ·) #[]).toList = _
          rw [fold_rep, txt_list]
          rfl
        rw [e3]
        refine ⟨?_, .str (txt (repT l n.toNat)), H, I.tok _, ⟨_, rfl⟩, q⟩
        rw [txt_length, repT_len, Nat.mul_comm, sizeLine_eq]
        omega
end Dear

namespace Du
open PySem PySem.Spec PyProof.Rows L2
abbrev St := L2.St
/-! ### data: what values stand for; the layer of functions (see NOTES, «u») -/
inductive D where
  | non | bl (b : Bool) | int (i : Int) | str (z : Str) | lst (ds : List D) | tup (ds : List D) | scr (ns : List Int)
  | dct (t : Bool) (kvs : List (D × D))
  | exc (c : Str) (fs : List (Str × D))
noncomputable instance : DecidableEq D := fun a b => Classical.propDecidable (a = b)
/-- flat keys -/
def keyD : Key → D
  | .inl i => .int i
  | .inr x => .str x
def keysD (ks : List Key) : D := .tup (ks.map keyD)
theorem keyD_inj {a b : Key} (h : keyD a = keyD b) : a = b := by
  cases a <;> cases b <;> simp [keyD] at h <;> subst h <;> rfl
theorem keysD_inj : ∀ {a b : List Key}, a.map keyD = b.map keyD → a = b
  | [], [], _ => rfl
  | [], _ :: _, h => by simp at h
  | _ :: _, [], h => by simp at h
  | x :: a, y :: b, h => by
    simp only [List.map_cons, List.cons.injEq] at h
    rw [keyD_inj h.1, keysD_inj h.2]
mutual
inductive Dt (K : PySem.W.Frag) (F : Hp) : V → D → Prop
  | non : Dt K F .non .non
  | bl (b : Bool) : Dt K F (.bl b) (.bl b)
  | int (i : Int) : Dt K F (.int i) (.int i)
  | str (z : Str) : Dt K F (.str z) (.str z)
  | lst {a : Addr} {xs : List V} {ds : List D} : F a = some (.lst xs) → DtAll K F xs ds → Dt K F (.ref a) (.lst ds)
  | scr {a : Addr} {ns : List Int} : SqL K F a (ns.map V.int) → Dt K F (.ref a) (.scr ns)
  | tup {a : Addr} {xs : List V} {ds : List D} : F a = some (.tup xs) → DtAll K F xs ds → Dt K F (.ref a) (.tup ds)
  | dk {a : Addr} {kvs : List (Key × V)} {ds : List (D × D)} : Rd F a (.dK kvs) → DtAll K F (kvs.map (·.2)) (ds.map (·.2)) → ds.map (·.1) = kvs.map (fun p => keyD p.1) → Dt K F (.ref a) (.dct false ds)
  | dt {a : Addr} {kvs : List (List Key × V)} {ds : List (D × D)} : F a = some (.dT kvs) → DtAll K F (kvs.map (·.2)) (ds.map (·.2)) → ds.map (·.1) = kvs.map (fun p => keysD p.1) → Dt K F (.ref a) (.dct true ds)
inductive DtAll (K : PySem.W.Frag) (F : Hp) : List V → List D → Prop
  | nil : DtAll K F [] []
  | cons {v : V} {vs : List V} {d : D} {ds : List D} : Dt K F v d → DtAll K F vs ds → DtAll K F (v :: vs) (d :: ds)
end
/-- what is told of F holds of G, too (G may have locked what F has) -/
def Below (F G : Hp) : Prop := ∀ a o, F a = some o → G a = some o ∨ ∃ kvs ob, o = .dK kvs ∧ G a = some (.frz ob o)
theorem Below.refl (F : Hp) : Below F F := fun _ _ h => .inl h
theorem Below.of {F G : Hp} (s : Same F G) : Below F G := fun a o h => .inl (s a o h)
theorem Below.rd {F G : Hp} {a : Addr} {u : HO} (s : Below F G) (h : Rd F a u) : Rd G a u := by
  rcases h with h | ⟨ob, h⟩
  · rcases s _ _ h with h | ⟨_, ob, rfl, h⟩
    · exact .inl h
    · exact .inr ⟨ob, h⟩
  · rcases s _ _ h with h | ⟨_, _, n, h⟩
    · exact .inr ⟨ob, h⟩
    · cases n
section
variable {K : PySem.W.Frag} {F G : Hp}
theorem Below.lst {a : Addr} {xs : List V} (s : Below F G) (h : F a = some (.lst xs)) : G a = some (.lst xs) := by
  rcases s _ _ h with h | ⟨_, _, n, _⟩
  · exact h
  · cases n
theorem Below.tup {a : Addr} {xs : List V} (s : Below F G) (h : F a = some (.tup xs)) : G a = some (.tup xs) := by
  rcases s _ _ h with h | ⟨_, _, n, _⟩
  · exact h
  · cases n
theorem Below.dt {a : Addr} {xs : List (List Key × V)} (s : Below F G) (h : F a = some (.dT xs)) : G a = some (.dT xs) := by
  rcases s _ _ h with h | ⟨_, _, n, _⟩
  · exact h
  · cases n
theorem Below.sql {a : Addr} {xs : List V} (s : Below F G) (h : SqL K F a xs) : SqL K G a xs := by
  rcases h with h | h
  · exact .inl (s.rd h)
  · exact .inr h
theorem Below.sqt {a : Addr} {xs : List V} (s : Below F G) (h : SqT K F a xs) : SqT K G a xs := by
  rcases h with h | h
  · exact .inl (s.rd h)
  · exact .inr h
mutual
theorem Dt.mv (s : Below F G) : ∀ {v : V} {d : D}, Dt K F v d → Dt K G v d
  | _, _, .non => .non
  | _, _, .bl b => .bl b
  | _, _, .int i => .int i
  | _, _, .str z => .str z
  | _, _, .lst h a => .lst (s.lst h) (DtAll.mv s a)
  | _, _, .scr h => .scr (s.sql h)
  | _, _, .tup h a => .tup (s.tup h) (DtAll.mv s a)
  | _, _, .dk h a e => .dk (s.rd h) (DtAll.mv s a) e
  | _, _, .dt h a e => .dt (s.dt h) (DtAll.mv s a) e
theorem DtAll.mv (s : Below F G) : ∀ {vs : List V} {ds : List D}, DtAll K F vs ds → DtAll K G vs ds
  | _, _, .nil => .nil
  | _, _, .cons a b => .cons (Dt.mv s a) (DtAll.mv s b)
end
theorem Dt.same (s : Same F G) {v : V} {d : D} (h : Dt K F v d) : Dt K G v d := h.mv (.of s)
theorem DtAll.same (s : Same F G) {v : List V} {d : List D} (h : DtAll K F v d) : DtAll K G v d := h.mv (.of s)
theorem DtAll.length : ∀ {vs : List V} {ds : List D}, DtAll K F vs ds → vs.length = ds.length
  | _, _, .nil => rfl
  | _, _, .cons _ b => by rw [List.length_cons, List.length_cons, DtAll.length b]
theorem DtAll.get : ∀ {vs : List V} {ds : List D} {i : Nat} {v : V}, DtAll K F vs ds → vs[i]? = some v → ∃ d, ds[i]? = some d ∧ Dt K F v d
  | _, _, _, _, .nil, e => by simp at e
  | _, _, 0, _, .cons a _, e => by
    simp at e
    subst e
    exact ⟨_, rfl, a⟩
  | _, _, i + 1, v, .cons _ b, e => by
    obtain ⟨d, h1, h2⟩ := DtAll.get (i := i) (v := v) b (by simpa using e)
    exact ⟨d, by simpa using h1, h2⟩
theorem DtAll.at : ∀ {vs : List V} {ds : List D} {i : Nat} {d : D}, DtAll K F vs ds → ds[i]? = some d → ∃ v, vs[i]? = some v ∧ Dt K F v d
  | _, _, _, _, .nil, e => by simp at e
  | _, _, 0, _, .cons a _, e => by
    simp at e
    subst e
    exact ⟨_, rfl, a⟩
  | _, _, i + 1, d, .cons _ b, e => by
    obtain ⟨v, h1, h2⟩ := DtAll.at (i := i) (d := d) b (by simpa using e)
    exact ⟨v, by simpa using h1, h2⟩
theorem DtAll.app : ∀ {vs us : List V} {ds es : List D}, DtAll K F vs ds → DtAll K F us es → DtAll K F (vs ++ us) (ds ++ es)
  | _, _, _, _, .nil, s => s
  | _, _, _, _, .cons a b, s => .cons a (DtAll.app b s)
theorem DtAll.take : ∀ (n : Nat) {vs : List V} {ds : List D}, DtAll K F vs ds → DtAll K F (vs.take n) (ds.take n)
  | 0, _, _, _ => .nil
  | _ + 1, _, _, .nil => .nil
  | n + 1, _, _, .cons a b => .cons a (DtAll.take n b)
theorem DtAll.drop : ∀ (n : Nat) {vs : List V} {ds : List D}, DtAll K F vs ds → DtAll K F (vs.drop n) (ds.drop n)
  | 0, _, _, h => h
  | _ + 1, _, _, .nil => .nil
  | n + 1, _, _, .cons _ b => DtAll.drop n b
theorem DtAll.rev : ∀ {vs : List V} {ds : List D}, DtAll K F vs ds → DtAll K F vs.reverse ds.reverse
  | _, _, .nil => .nil
  | _, _, .cons a b => by
    rw [List.reverse_cons, List.reverse_cons]
    exact (DtAll.rev b).app (.cons a .nil)
theorem DtAll.set {v : V} {d : D} (h : Dt K F v d) : ∀ {vs : List V} {ds : List D} (i : Nat), DtAll K F vs ds → DtAll K F (vs.set i v) (ds.set i d)
  | _, _, _, .nil => .nil
  | _, _, 0, .cons _ t => .cons h t
  | _, _, i + 1, .cons q t => .cons q (DtAll.set h i t)
theorem Dt.intE {v : V} {i : Int} (h : Dt K F v (.int i)) : v = .int i := by cases h; rfl
theorem Dt.strE {v : V} {z : Str} (h : Dt K F v (.str z)) : v = .str z := by cases h; rfl
theorem Dt.blE {v : V} {b : Bool} (h : Dt K F v (.bl b)) : v = .bl b := by cases h; rfl
theorem Dt.nonE {v : V} (h : Dt K F v .non) : v = .non := by cases h; rfl
theorem Dt.lstE {v : V} {ds : List D} (h : Dt K F v (.lst ds)) : ∃ a xs, v = .ref a ∧ F a = some (.lst xs) ∧ DtAll K F xs ds := by
  cases h with
  | lst h a => exact ⟨_, _, rfl, h, a⟩
theorem Dt.tupE {v : V} {ds : List D} (h : Dt K F v (.tup ds)) : ∃ a xs, v = .ref a ∧ SqT K F a xs ∧ DtAll K F xs ds := by
  cases h with
  | tup h a => exact ⟨_, _, rfl, .inl (.inl h), a⟩
theorem Dt.tupS {v : V} {ds : List D} (h : Dt K F v (.tup ds)) : ∃ a xs, v = .ref a ∧ F a = some (.tup xs) ∧ DtAll K F xs ds := by
  cases h with
  | tup h a => exact ⟨_, _, rfl, h, a⟩
theorem Dt.ints {F : Hp} : ∀ (ns : List Int), DtAll K F (ns.map V.int) (ns.map D.int)
  | [] => .nil
  | n :: r => .cons (.int n) (Dt.ints r)
theorem Dt.strs {F : Hp} : ∀ (ns : List Str), DtAll K F (ns.map V.str) (ns.map D.str)
  | [] => .nil
  | n :: r => .cons (.str n) (Dt.strs r)
theorem DtAll.intsE : ∀ {vs : List V} {ns : List Int}, DtAll K F vs (ns.map D.int) → vs = ns.map V.int
  | _, [], .nil => rfl
  | _, n :: ns, .cons a b => by
    rw [a.intE, DtAll.intsE b]
    rfl
theorem DtAll.strsE : ∀ {vs : List V} {ns : List Str}, DtAll K F vs (ns.map D.str) → vs = ns.map V.str
  | _, [], .nil => rfl
  | _, n :: ns, .cons a b => by
    rw [a.strE, DtAll.strsE b]
    rfl
end
/-! no list, no dict within -/
mutual
def imm : D → Bool
  | .lst _ => false
  | .scr _ => false
  | .dct _ _ => false
  | .exc _ _ => false
  | .tup ds => imms ds
  | _ => true
def imms : List D → Bool
  | [] => true
  | d :: ds => imm d && imms ds
end
/-- behind Same F G, without a list or a dict: tuples alone are borne -/
def Tups (F G : Hp) : Prop := ∀ a xs, F a = some (.tup xs) → G a = some (.tup xs)
mutual
theorem Dt.tups {K : PySem.W.Frag} {F G : Hp} (s : Tups F G) : ∀ {v : V} {d : D}, imm d = true → Dt K F v d → Dt K G v d
  | _, _, _, .non => .non
  | _, _, _, .bl b => .bl b
  | _, _, _, .int i => .int i
  | _, _, _, .str z => .str z
  | _, _, i, .lst _ _ => by cases i
  | _, _, i, .scr _ => by cases i
  | _, _, i, .tup h a => .tup (s _ _ h) (DtAll.tups s i a)
  | _, _, i, .dk _ _ _ => by cases i
  | _, _, i, .dt _ _ _ => by cases i
theorem DtAll.tups {K : PySem.W.Frag} {F G : Hp} (s : Tups F G) : ∀ {vs : List V} {ds : List D}, imms ds = true → DtAll K F vs ds → DtAll K G vs ds
  | _, _, _, .nil => .nil
  | _, _, i, .cons a b => by
    simp only [imms, Bool.and_eq_true] at i
    exact .cons (Dt.tups s i.1 a) (DtAll.tups s i.2 b)
end
/-! ### results -/
structure Ex where
  cls : Str
  fs : List (Str × D)
inductive Res (α : Type) where
  | ok (a : α)
  | exc (x : Ex)
  | bad
def Res.bind {α β : Type} (r : Res α) (f : α → Res β) : Res β :=
  match r with
  | .ok a => f a
  | .exc x => .exc x
  | .bad => .bad
def Res.map {α β : Type} (r : Res α) (f : α → β) : Res β := r.bind fun a => .ok (f a)
section
variable {α β : Type}
@[simp] theorem Res.bind_ok (a : α) (f : α → Res β) : (Res.ok a).bind f = f a := rfl
@[simp] theorem Res.bind_exc (x : Ex) (f : α → Res β) : (Res.exc x).bind f = .exc x := rfl
@[simp] theorem Res.bind_bad (f : α → Res β) : (Res.bad : Res α).bind f = .bad := rfl
@[simp] theorem Res.map_ok (a : α) (f : α → β) : (Res.ok a).map f = .ok (f a) := rfl
theorem Res.bind_assoc {γ : Type} (r : Res α) (f : α → Res β) (g : β → Res γ) : (r.bind f).bind g = r.bind fun a => (f a).bind g := by cases r <;> rfl
end
/-- a list's length is within the line -/
def fit (n : Nat) : Bool := Nat.ble n 16777215
theorem fit_line {n : Nat} (h : fit n = true) : n < sizeLine := by
  rw [sizeLine_eq]
  have := Nat.le_of_ble_eq_true h
  omega
theorem fit_of {n : Nat} (h : n ≤ 16777215) : fit n = true := Nat.ble_eq_true_of_le h
def guard' (b : Bool) : Res Unit := if b = true then .ok () else .bad
end Du

namespace Du
open PySem PySem.Spec PyProof.Rows L2
/-! ### what grows: H the heap, F the part that is told of -/
structure Gr (F H F' H' : Hp) : Prop where
  hh : Same H H'
  ff : Same F F'
  fh : Same F' H'
  nw : ∀ a o, F' a = some o → F a = some o ∨ H a = none
section
variable {F H F1 H1 F2 H2 : Hp}
theorem Gr.refl (s : Same F H) : Gr F H F H := ⟨.refl _, .refl _, s, fun _ _ h => .inl h⟩
theorem Gr.trans (a : Gr F H F1 H1) (b : Gr F1 H1 F2 H2) : Gr F H F2 H2 := ⟨a.hh.trans b.hh, a.ff.trans b.ff, b.fh, fun p o h => by
  rcases b.nw p o h with h | h
  · exact a.nw p o h
  · exact .inr (a.hh.free h)⟩
theorem sm_upd {H : Hp} {l : Addr} {o : HO} (h : H l = none) : Same H (upd H l o) := fun b u e => by
  rw [upd_ne (ne_of_none e h)]
  exact e
theorem sm_upd2 {F H : Hp} {l : Addr} {o : HO} (s : Same F H) : Same (upd F l o) (upd H l o) := fun b u e => by
  by_cases h : b = l
  · subst h
    rw [upd_same] at e ⊢
    exact e
  · rw [upd_ne h] at e ⊢
    exact s _ _ e
theorem Gr.new {p : Addr} {o : HO} (s : Same F H) (hp : H p = none) : Gr F H (upd F p o) (upd H p o) := ⟨sm_upd hp, sm_upd (s.free hp), sm_upd2 s, fun a u e => by
  by_cases h : a = p
  · subst h
    exact .inr hp
  · rw [upd_ne h] at e
    exact .inl e⟩
/-- new, but not told of -/
theorem Gr.hid {p : Addr} {o : HO} (s : Same F H) (hp : H p = none) : Gr F H F (upd H p o) := ⟨sm_upd hp, .refl _, s.trans (sm_upd hp), fun _ _ h => .inl h⟩
end
/-! ### slots as data -/
abbrev VEnv := List (Option D)
structure Vw (K : PySem.W.Frag) (F : Hp) (σ : St) (ρ : VEnv) : Prop where
  len : σ.length = ρ.length
  get : ∀ (i : Nat) (d : D), ρ[i]? = some (some d) → ∃ v, σ[i]? = some (some v) ∧ Dt K F v d
theorem Vw.same {K : PySem.W.Frag} {F G : Hp} {σ : St} {ρ : VEnv} (h : Vw K F σ ρ) (s : Same F G) : Vw K G σ ρ := ⟨h.len, fun i d e => by
  obtain ⟨v, h1, h2⟩ := h.get i d e
  exact ⟨v, h1, h2.same s⟩⟩
/-! ### exceptions: the wish behind them -/
/-- an exception as the law's text sees it: its class, its own dict -/
def ExIs (K : PySem.W.Frag) (mg : Str → Option Value) (x : Ex) (F : Hp) (C : Value) (dd : Option Addr) : Prop :=
  mg x.cls = some C ∧ match x.fs with
    | [] => dd = none
    | [(f, d)] => ∃ a v, dd = some a ∧ F a = some (.xd [(f, v)]) ∧ Dt K F v d
    | _ => False
structure XM where
  mg : Str → Option Value
  W : WX
abbrev XMo := Option XM
def Xw (K : PySem.W.Frag) (xm : XMo) (σ : St) (F H : Hp) (x : Ex) : Prop := match xm with
  | none => False
  | some m => ∀ C dd F' H', Gr F H F' H' → ExIs K m.mg x F' C dd → m.W C dd σ H'
theorem Xw.mono {K : PySem.W.Frag} {xm : XMo} {σ : St} {F H F1 H1 : Hp} {x : Ex} (h : Xw K xm σ F H x) (g : Gr F H F1 H1) : Xw K xm σ F1 H1 x := by
  cases xm with
  | none => exact h.elim
  | some m => exact fun C dd F' H' g' => h C dd F' H' (g.trans g')
/-! ### what a reading has to give -/
def Po {α ω : Type} (R : Hp → ω → α → Prop) (K : PySem.W.Frag) (xm : XMo) (σ : St) (F H : Hp) (r : Res α) (Q : ω → Hp → Prop) : Prop := match r with
  | .ok a => ∀ w F' H', Gr F H F' H' → R F' w a → Q w H'
  | .exc x => Xw K xm σ F H x
  | .bad => False
section
variable {α β ω ω' : Type} {R : Hp → ω → α → Prop} {R' : Hp → ω' → β → Prop} {K : PySem.W.Frag} {xm : XMo} {σ : St} {F H F1 H1 : Hp}
theorem Po.mono {r : Res α} {Q : ω → Hp → Prop} (h : Po R K xm σ F H r Q) (g : Gr F H F1 H1) : Po R K xm σ F1 H1 r Q := by
  cases r with
  | ok a => exact fun w F' H' g' => h w F' H' (g.trans g')
  | exc x => exact Xw.mono h g
  | bad => exact h
theorem Po.seq {r : Res α} {f : α → Res β} {Q : ω' → Hp → Prop} {W : ω → Hp → Prop} (k : Po R' K xm σ F H (r.bind f) Q) (n : ∀ a w F1 H1, Gr F H F1 H1 → R F1 w a → Po R' K xm σ F1 H1 (f a) Q → W w H1) : Po R K xm σ F H r W := by
  cases r with
  | ok a => exact fun w F1 H1 g d => n a w F1 H1 g d (Po.mono k g)
  | exc x => exact k
  | bad => exact k
theorem Po.done {a : α} {w : ω} {Q : ω → Hp → Prop} (k : Po R K xm σ F H (.ok a) Q) (s : Same F H) (h : R F w a) : Q w H := k w F H (.refl s) h
theorem Po.new {a : α} {w : ω} {Q : ω → Hp → Prop} {p : Addr} {o : HO} (k : Po R K xm σ F H (.ok a) Q) (s : Same F H) (hp : H p = none) (h : R (upd F p o) w a) : Q w (upd H p o) := k w _ _ (.new s hp) h
end
abbrev RD (K : PySem.W.Frag) : Hp → V → D → Prop := fun F v d => Dt K F v d
abbrev RL (K : PySem.W.Frag) : Hp → List V → List D → Prop := fun F v d => DtAll K F v d
abbrev RB : Hp → Bool → Bool → Prop := fun _ b c => b = c
/-! ### readings by functions -/
def tF (K : PySem.W.Frag) (xm : XMo) (f : VEnv → Res D) : TE := fun σ H Q => ∃ F ρ, Same F H ∧ Vw K F σ ρ ∧ Po (RD K) K xm σ F H (f ρ) Q
def bF (K : PySem.W.Frag) (xm : XMo) (f : VEnv → Res Bool) : TT := fun σ H Q => ∃ F ρ, Same F H ∧ Vw K F σ ρ ∧ Po RB K xm σ F H (f ρ) Q
def aF (K : PySem.W.Frag) (xm : XMo) (f : VEnv → Res (List D)) : TA := fun σ H Q => ∃ F ρ, Same F H ∧ Vw K F σ ρ ∧ Po (RL K) K xm σ F H (f ρ) Q
theorem PE.to {X : Cx} {e : Expr} {t t' : TE} (h : PE X e t) (m : ∀ σ H Q, t' σ H Q → t σ H Q) : PE X e t' := ⟨fun pins s σ H Q I q => h.run pins s σ H Q I (m _ _ _ q)⟩
theorem PT.to {X : Cx} {e : Expr} {t t' : TT} (h : PT X e t) (m : ∀ σ H Q, t' σ H Q → t σ H Q) : PT X e t' := ⟨fun pins s σ H Q I q => h.run pins s σ H Q I (m _ _ _ q)⟩
theorem PW.to {X : Cx} {e : Expr} {t t' : TT} (h : PW X e t) (m : ∀ σ H Q, t' σ H Q → t σ H Q) : PW X e t' := ⟨fun wh pins s σ H Q I q => h.run wh pins s σ H Q I (m _ _ _ q)⟩
theorem PA.to {X : Cx} {e : List Expr} {t t' : TA} (h : PA X e t) (m : ∀ σ H Q, t' σ H Q → t σ H Q) : PA X e t' := ⟨fun pos pins s σ H Q I q => h.run pos pins s σ H Q I (m _ _ _ q)⟩
theorem PS.to {X : Cx} {e : Stmt} {t t' : TS} (h : PS X e t) (m : ∀ D σ H, t' D σ H → t D σ H) : PS X e t' := ⟨fun pins s σ H D I q => h.run pins s σ H D I (m _ _ _ q)⟩
theorem PSs.to {X : Cx} {e : List Stmt} {t t' : TS} (h : PSs X e t) (m : ∀ D σ H, t' D σ H → t D σ H) : PSs X e t' := ⟨fun pins s σ H D I q => h.run pins s σ H D I (m _ _ _ q)⟩
/-- FE: the expression e computes f -/
abbrev FE (K : PySem.W.Frag) (xm : XMo) (X : Cx) (e : Expr) (f : VEnv → Res D) : Prop := PE X e (tF K xm f)
abbrev FT (K : PySem.W.Frag) (xm : XMo) (X : Cx) (e : Expr) (f : VEnv → Res Bool) : Prop := PT X e (bF K xm f)
abbrev FW (K : PySem.W.Frag) (xm : XMo) (X : Cx) (e : Expr) (f : VEnv → Res Bool) : Prop := PW X e (bF K xm f)
abbrev FA (K : PySem.W.Frag) (xm : XMo) (X : Cx) (e : List Expr) (f : VEnv → Res (List D)) : Prop := PA X e (aF K xm f)
/-! ### names, constants -/
def eVar (i : Nat) : VEnv → Res D := fun ρ => match ρ[i]? with
  | some (some d) => .ok d
  | _ => .bad
def eC (d : D) : VEnv → Res D := fun _ => .ok d
section
variable {K : PySem.W.Frag} {xm : XMo} {X : Cx}
theorem tF.var {i : Nat} {σ : St} {H : Hp} {Q : VK} (h : tF K xm (eVar i) σ H Q) : tVar i σ H Q := by
  obtain ⟨F, ρ, sF, vw, k⟩ := h
  unfold eVar at k
  split at k
  · rename_i d e
    obtain ⟨v, h1, h2⟩ := vw.get i d e
    exact ⟨v, h1, k.done sF h2⟩
  · exact k.elim
theorem fe_var (i : Nat) {x : Str} {pos : Pos} (hN : X.N[i]? = some x := by rfl) (hv : Vis X.env.scope x := by first | exact Or.inl rfl | exact Or.inr (Or.inl rfl) | exact Or.inr (Or.inr rfl)) (hd : (x == ("__debug__" : Str)) = false := by decide)
    (hcd : (x == ("__classdict__" : Str)) = false := by decide) : FE K xm X (.Name x pos) (eVar i) := PE.to (pv i hN hv hd hcd) fun _ _ _ h => h.var
theorem fe_cst {e : Expr} {v : V} {d : D} (h : PE X e (tC v)) (hd : ∀ F, Dt K F v d) : FE K xm X e (eC d) := PE.to h fun σ H Q ⟨F, ρ, sF, vw, k⟩ => k.done sF (hd F)
theorem fe_int {i : Int} {j : Nat} {pos : Pos} : FE K xm X (.Constant (.int i) j pos) (eC (.int i)) := fe_cst pe_int fun _ => .int _
theorem fe_bl {i : Bool} {j : Nat} {pos : Pos} : FE K xm X (.Constant (.bool i) j pos) (eC (.bl i)) := fe_cst pe_bl fun _ => .bl _
theorem fe_non {j : Nat} {pos : Pos} : FE K xm X (.Constant .none j pos) (eC .non) := fe_cst pe_non fun _ => .non
theorem fe_str {x : Str} {j : Nat} {pos : Pos} : FE K xm X (.Constant (.str x) j pos) (eC (.str x)) := fe_cst pe_str fun _ => .str _
theorem fe_gi {x : Str} {i : Int} {pos : Pos} (h : ∃ t, X.mg x = some (.int i t)) (hg : Gl X x := by rfl) (hd : (x == ("__debug__" : Str)) = false := by decide) : FE K xm X (.Name x pos) (eC (.int i)) := fe_cst (Dear.pe_gi h hg hd) fun _ => .int _
theorem fe_gs {x : Str} {i : Str} {pos : Pos} (h : ∃ t, X.mg x = some (.str i t)) (hg : Gl X x := by rfl) (hd : (x == ("__debug__" : Str)) = false := by decide) : FE K xm X (.Name x pos) (eC (.str i)) := fe_cst (Dear.pe_gs h hg hd) fun _ => .str _
/-! ### operators by values -/
/-- the rule r does what g says -/
def OpD (K : PySem.W.Frag) (r : R2) (g : D → D → Res D) : Prop := ∀ (xm : XMo) σ F H x y a b Q, Same F H → Dt K F x a → Dt K F y b → Po (RD K) K xm σ F H (g a b) Q → r x y H Q
def UnD (K : PySem.W.Frag) (r : V → Hp → VK → Prop) (g : D → Res D) : Prop := ∀ (xm : XMo) σ F H x a Q, Same F H → Dt K F x a → Po (RD K) K xm σ F H (g a) Q → r x H Q
def CallD (K : PySem.W.Frag) (r : List V → Hp → VK → Prop) (g : List D → Res D) : Prop := ∀ (xm : XMo) σ F H xs ds Q, Same F H → DtAll K F xs ds → Po (RD K) K xm σ F H (g ds) Q → r xs H Q
def eOp (g : D → D → Res D) (fa fb : VEnv → Res D) : VEnv → Res D := fun ρ => (fa ρ).bind fun a => (fb ρ).bind fun b => g a b
def eUn (g : D → Res D) (fa : VEnv → Res D) : VEnv → Res D := fun ρ => (fa ρ).bind g
theorem tF.op {r : R2} {g : D → D → Res D} {fa fb : VEnv → Res D} (h : OpD K r g) {σ : St} {H : Hp} {Q : VK} (k : tF K xm (eOp g fa fb) σ H Q) : tOp r (tF K xm fa) (tF K xm fb) σ H Q := by
  obtain ⟨F, ρ, sF, vw, k⟩ := k
  refine ⟨F, ρ, sF, vw, Po.seq k fun a x F1 H1 g1 d1 k1 => ⟨F1, ρ, g1.fh, vw.same g1.ff, Po.seq k1 fun b y F2 H2 g2 d2 k2 => h xm σ F2 H2 x y a b Q g2.fh (Dt.same g2.ff d1) d2 k2⟩⟩
theorem tF.un {r : V → Hp → VK → Prop} {g : D → Res D} {fa : VEnv → Res D} (h : UnD K r g) {σ : St} {H : Hp} {Q : VK} (k : tF K xm (eUn g fa) σ H Q) : tUn r (tF K xm fa) σ H Q := by
  obtain ⟨F, ρ, sF, vw, k⟩ := k
  exact ⟨F, ρ, sF, vw, Po.seq k fun a x F1 H1 g1 d1 k1 => h xm σ F1 H1 x a Q g1.fh d1 k1⟩
theorem fe_op {a b : Expr} {op : Operator} {pos : Pos} {r : R2} {g : D → D → Res D} {fa fb : VEnv → Res D} (ho : OpR X (binaryOp op) r) (h : OpD K r g) (ha : FE K xm X a fa) (hb : FE K xm X b fb) : FE K xm X (.BinOp a op b pos) (eOp g fa fb) :=
  PE.to (pe_op ho ha hb) fun _ _ _ k => k.op h
theorem fe_cmp {a b : Expr} {op : CmpOp} {pos : Pos} {r : R2} {g : D → D → Res D} {fa fb : VEnv → Res D} (ho : OpR X (compareOp op) r) (h : OpD K r g) (ha : FE K xm X a fa) (hb : FE K xm X b fb) (hm : behindInMarks op b = false := by first | exact nomark _ | rfl) :
    FE K xm X (.Compare a [op] [b] pos) (eOp g fa fb) := PE.to (pe_cmpR ho ha hb hm) fun _ _ _ k => k.op h
theorem fe_un {a : Expr} {op : UnaryOp} {pos : Pos} {r : V → Hp → VK → Prop} {g : D → Res D} {fa : VEnv → Res D} (ho : UnR X (unaryOp op) r) (h : UnD K r g) (ha : FE K xm X a fa) : FE K xm X (.UnaryOp op a pos) (eUn g fa) := PE.to (pe_un ho ha) fun _ _ _ k => k.un h
/-- two rules for one operator -/
theorem OpR.or {f : Value → Value → Sem Value} {r1 r2 : R2} (h1 : OpR X f r1) (h2 : OpR X f r2) : OpR X f (fun x y H Q => r1 x y H Q ∨ r2 x y H Q) := fun pins s σ H x y u v Q I rx ry h => h.elim (h1 pins s σ H x y u v Q I rx ry) (h2 pins s σ H x y u v Q I rx ry)
theorem CallR.or {f : Value} {r1 r2 : List V → Hp → VK → Prop} (h1 : CallR X f r1) (h2 : CallR X f r2) : CallR X f (fun x H Q => r1 x H Q ∨ r2 x H Q) := fun pins s σ H x u Q I rx h => h.elim (h1 pins s σ H x u Q I rx) (h2 pins s σ H x u Q I rx)
end
end Du

namespace Du
open PySem PySem.Spec PyProof.Rows L2
section
variable {X : Cx} (K : PySem.W.Frag)
def rAddA : R2 := fun x y H Q => (((rI0 fun i j => .int (i + j)) x y H Q ∨ (fun x y H Q => ∃ i j, x = .str i ∧ y = .str j ∧ i.length + j.length ≤ sizeLine ∧ Q (.str (i ++ j)) H) x y H Q) ∨ rCat x y H Q) ∨ rCatA K x y H Q
theorem op_addA (h : X.K = K := by rfl) : OpR X (binaryOp .Add) (rAddA K) := OpR.or (OpR.or (OpR.or op_add op_add_str) op_cat) (h ▸ op_catA)
end
def dAdd : D → D → Res D
  | .int a, .int b => .ok (.int (a + b))
  | .str a, .str b => if fit (a.length + b.length) = true then .ok (.str (a ++ b)) else .bad
  | .lst a, .lst b => if fit (a.length + b.length) = true then .ok (.lst (a ++ b)) else .bad
  | .tup a, .tup b => if fit (a.length + b.length) = true then .ok (.tup (a ++ b)) else .bad
  | _, _ => .bad
theorem DtAll.nilE {K : PySem.W.Frag} {F : Hp} {ds : List D} (h : DtAll K F [] ds) : ds = [] := by cases h; rfl
theorem Po.ite {α ω : Type} {R : Hp → ω → α → Prop} {K : PySem.W.Frag} {xm : XMo} {σ : St} {F H : Hp} {b : Bool} {r : Res α} {Q : ω → Hp → Prop} (k : Po R K xm σ F H (if b = true then r else .bad) Q) : b = true ∧ Po R K xm σ F H r Q := by
  cases b with
  | true => exact ⟨rfl, by rwa [if_pos rfl] at k⟩
  | false =>
    rw [if_neg Bool.false_ne_true] at k
    exact k.elim
theorem Po.iteP {α ω : Type} {R : Hp → ω → α → Prop} {K : PySem.W.Frag} {xm : XMo} {σ : St} {F H : Hp} {b : Prop} [Decidable b] {r : Res α} {Q : ω → Hp → Prop} (k : Po R K xm σ F H (if b then r else .bad) Q) : b ∧ Po R K xm σ F H r Q := by
  by_cases h : b
  · exact ⟨h, by rwa [if_pos h] at k⟩
  · rw [if_neg h] at k
    exact k.elim
section
variable {K : PySem.W.Frag}
theorem opd_add : OpD K (rAddA K) dAdd := by
  intro xm σ F H x y a b Q s hx hy k
  unfold dAdd at k
  split at k
  · rw [hx.intE, hy.intE]
    exact .inl (.inl (.inl ⟨_, _, rfl, rfl, k.done s (.int _)⟩))
  · obtain ⟨f, k⟩ := Po.ite k
    rw [hx.strE, hy.strE]
    exact .inl (.inl (.inr ⟨_, _, rfl, rfl, Nat.le_of_lt (fit_line f), k.done s (.str _)⟩))
  · obtain ⟨f, k⟩ := Po.ite k
    obtain ⟨p, xs, rfl, h1, h2⟩ := hx.lstE
    obtain ⟨q, ys, rfl, h3, h4⟩ := hy.lstE
    refine .inl (.inr ⟨_, _, _, _, rfl, rfl, s _ _ h1, s _ _ h3, by rw [h2.length, h4.length]; exact Nat.le_of_lt (fit_line f), fun r hr => ?_⟩)
    have w := sm_upd (o := .lst (xs ++ ys)) (s.free hr)
    exact k.new s hr (.lst upd_same ((h2.same w).app (h4.same w)))
  · obtain ⟨f, k⟩ := Po.ite k
    obtain ⟨p, xs, rfl, h1, h2⟩ := hx.tupE
    obtain ⟨q, ys, rfl, h3, h4⟩ := hy.tupE
    refine .inr ⟨_, _, _, _, rfl, rfl, (Below.of s).sqt h1, (Below.of s).sqt h3, by rw [h2.length, h4.length]; exact Nat.le_of_lt (fit_line f), fun e => ?_, fun _ e => ?_, fun _ _ r hr => ?_⟩
    · subst e
      rw [h2.nilE] at k
      exact k.done s hy
    · subst e
      rw [h4.nilE, List.append_nil] at k
      exact k.done s hx
    · have w := sm_upd (o := .tup (xs ++ ys)) (s.free hr)
      exact k.new s hr (.tup upd_same ((h2.same w).app (h4.same w)))
  · exact k.elim
/-! ### whole numbers -/
def dI (c : Int → Int → Prop) [∀ i j, Decidable (c i j)] (g : Int → Int → Int) : D → D → Res D
  | .int a, .int b => if c a b then .ok (.int (g a b)) else .bad
  | _, _ => .bad
theorem opd_i {c : Int → Int → Prop} [∀ i j, Decidable (c i j)] {C : Int → Int → Prop} {g : Int → Int → Int} (h : ∀ i j, c i j → C i j) : OpD K (rI C fun i j => .int (g i j)) (dI c g) := by
  intro xm σ F H x y a b Q s hx hy k
  unfold dI at k
  split at k
  · obtain ⟨f, k⟩ := Po.iteP k
    rw [hx.intE, hy.intE]
    exact ⟨_, _, rfl, rfl, h _ _ f, k.done s (.int _)⟩
  · exact k.elim
def dSub : D → D → Res D
  | .int a, .int b => .ok (.int (a - b))
  | _, _ => .bad
theorem opd_sub : OpD K (rI0 fun i j => .int (i - j)) dSub := by
  intro xm σ F H x y a b Q s hx hy k
  unfold dSub at k
  split at k
  · rw [hx.intE, hy.intE]
    exact ⟨_, _, rfl, rfl, k.done s (.int _)⟩
  · exact k.elim
instance : ∀ i j, Decidable (CMulW i j) := fun i j => inferInstanceAs (Decidable (_ < _))
instance : ∀ i j, Decidable (CDivW i j) := fun i j => inferInstanceAs (Decidable (_ ∧ _))
instance : ∀ i j, Decidable (CPow i j) := fun i j => inferInstanceAs (Decidable (_ ∧ _ ∧ _))
abbrev dDiv := dI CDivW fun i j => i / j
abbrev dMod := dI (fun _ j => 0 < j) fun i j => i % j
abbrev dPow := dI CPow fun i j => i ^ j.toNat
theorem opd_div : OpD K (rI CDivW fun i j => .int (i / j)) dDiv := opd_i fun _ _ h => h
theorem opd_mod : OpD K (rI (fun _ j => 0 < j) fun i j => .int (i % j)) dMod := opd_i fun _ _ h => h
theorem opd_pow : OpD K (rI CPow fun i j => .int (i ^ j.toNat)) dPow := opd_i fun _ _ h => h
end
/-! ### times: whole numbers, a list or a text by a number -/
section
variable {X : Cx}
def rMulA : R2 := fun x y H Q => (((rI CMulW fun i j => .int (i * j)) x y H Q ∨ (rI CMul fun i j => .int (i * j)) x y H Q) ∨ Dear.rRepS x y H Q) ∨ rRep x y H Q
theorem op_mulA : OpR X (binaryOp .Mult) rMulA := OpR.or (OpR.or (OpR.or op_mulW op_mul) Dear.op_repS) op_rep
end
/-- few figures together, or one factor small -/
def CMulA (i j : Int) : Prop := CMulW i j ∨ CMul i j
instance : ∀ i j, Decidable (CMul i j) := fun i j => inferInstanceAs (Decidable (_ ∨ _))
instance : ∀ i j, Decidable (CMulA i j) := fun i j => inferInstanceAs (Decidable (_ ∨ _))
def dMul : D → D → Res D
  | .int a, .int b => if CMulA a b then .ok (.int (a * b)) else .bad
  | .str a, .int b => if 0 ≤ b ∧ b ≤ 1000 ∧ a.length ≤ 1000 then .ok (.str (Dear.txt (Dear.repT a.cps.toList b.toNat))) else .bad
  | .lst a, .int b => if -1000000 ≤ b ∧ b ≤ 1000000 ∧ fit a.length = true ∧ fit (a.length * b.toNat) = true then .ok (.lst (List.replicate b.toNat a).flatten) else .bad
  | _, _ => .bad
theorem DtAll.rep {K : PySem.W.Frag} {F : Hp} {vs : List V} {ds : List D} (h : DtAll K F vs ds) : ∀ n : Nat, DtAll K F (List.replicate n vs).flatten (List.replicate n ds).flatten
  | 0 => .nil
  | n + 1 => by
    rw [List.replicate_succ, List.replicate_succ, List.flatten_cons, List.flatten_cons]
    exact h.app (DtAll.rep h n)
theorem opd_mul {K : PySem.W.Frag} : OpD K rMulA dMul := by
  intro xm σ F H x y a b Q s hx hy k
  unfold dMul at k
  split at k
  · obtain ⟨f, k⟩ := Po.iteP k
    rw [hx.intE, hy.intE]
    rcases f with f | f
    · exact .inl (.inl (.inl ⟨_, _, rfl, rfl, f, k.done s (.int _)⟩))
    · exact .inl (.inl (.inr ⟨_, _, rfl, rfl, f, k.done s (.int _)⟩))
  · rename_i a b
    obtain ⟨⟨f1, f2, f3⟩, k⟩ := Po.iteP k
    rw [hx.strE, hy.intE]
    have e : a = Dear.txt a.cps.toList := Dear.txt_of a
    exact .inl (.inr ⟨a.cps.toList, b, congrArg V.str e, rfl, f1, f2, by rw [Array.length_toList]; exact f3, k.done s (.str _)⟩)
  · rename_i a b
    obtain ⟨⟨f0, f1, f2, f3⟩, k⟩ := Po.iteP k
    obtain ⟨p, xs, rfl, h1, h2⟩ := hx.lstE
    rw [hy.intE]
    refine .inr ⟨_, _, _, rfl, rfl, s _ _ h1, by omega, by omega, by rw [h2.length]; exact Nat.le_of_lt (fit_line f3), fun r hr => ?_⟩
    exact k.new s hr (.lst upd_same ((h2.same (sm_upd (s.free hr))).rep _))
  · exact k.elim
/-- [..] * n -/
def eRep (fa : VEnv → Res (List D)) (fb : VEnv → Res D) : VEnv → Res D := fun ρ => (fa ρ).bind fun a => if fit a.length = true then (fb ρ).bind fun b => match b with
  | .int b => if -1000000 ≤ b ∧ b ≤ 1000000 ∧ fit (a.length * b.toNat) = true then .ok (.lst (List.replicate b.toNat a).flatten) else .bad
  | _ => .bad else .bad
theorem fe_rep {K : PySem.W.Frag} {xm : XMo} {X : Cx} {es : List Expr} {b : Expr} {p1 pos : Pos} {fa : VEnv → Res (List D)} {fb : VEnv → Res D} (ha : FA K xm X es fa) (hb : FE K xm X b fb) : FE K xm X (.BinOp (.List es p1) .Mult b pos) (eRep fa fb) :=
  PE.to (pe_op op_rep (pe_lst ha) hb) fun σ H Q ⟨F, ρ, sF, vw, k⟩ => ⟨F, ρ, sF, vw, Po.seq k fun a xs F1 H1 g1 d1 k1 => by
    obtain ⟨f, k1⟩ := Po.ite k1
    refine ⟨by rw [d1.length]; exact Nat.le_of_lt (fit_line f), fun p hp => ?_⟩
    have g2 := Gr.new (o := .lst xs) g1.fh hp
    refine ⟨_, ρ, g2.fh, vw.same (g1.ff.trans g2.ff), Po.seq (k1.mono g2) fun b y F2 H2 g3 d3 k2 => ?_⟩
    split at k2
    · rename_i b
      obtain ⟨⟨f0, f1, f2⟩, k2⟩ := Po.iteP k2
      · rw [d3.intE]
        have e1 := g3.fh _ _ (g3.ff _ _ (upd_same (H := F1) (a := p) (o := .lst xs)))
        refine ⟨_, _, _, rfl, rfl, e1, by omega, by omega, by rw [d1.length]; exact Nat.le_of_lt (fit_line f2), fun r hr => ?_⟩
        exact k2.new g3.fh hr (.lst upd_same ((d1.same (g2.ff.trans (g3.ff.trans (sm_upd (g3.fh.free hr))))).rep _))
    · exact k2.elim⟩
end Du

namespace Du
open PySem PySem.Spec PyProof.Rows L2
/-! ### data as the library's -/
mutual
def py : D → PyData
  | .non => .none
  | .bl b => .bool b
  | .int i => .int i
  | .str z => .str z
  | .lst ds => .list (pyAll ds)
  | .tup ds => .tuple (pyAll ds)
  | _ => .none
def pyAll : List D → List PyData
  | [] => []
  | d :: ds => py d :: pyAll ds
end
mutual
/-- texts, numbers, truths, None, lists and tuples of such; the texts plain -/
def okD : D → Bool
  | .non => true
  | .bl _ => true
  | .int _ => true
  | .str z => z.cps.toList.all fun c => decide (c < 128)
  | .lst ds => okAll ds
  | .tup ds => okAll ds
  | _ => false
def okAll : List D → Bool
  | [] => true
  | d :: ds => okD d && okAll ds
end
mutual
def dep : D → Nat
  | .lst ds => depAll ds + 1
  | .tup ds => depAll ds + 1
  | _ => 0
def depAll : List D → Nat
  | [] => 0
  | d :: ds => max (dep d) (depAll ds)
end
/-- may be compared -/
def lay (d : D) : Bool := okD d && decide (dep d ≤ 60)
mutual
def pyEq : D → D → Bool
  | .non, .non => true
  | .bl a, .bl b => a == b
  | .bl a, .int j => (if a then 1 else 0) == j
  | .int i, .bl b => i == (if b then 1 else 0)
  | .int i, .int j => decide (i = j)
  | .str x, .str y => decide (x = y)
  | .lst xs, .lst ys => pyEqAll xs ys
  | .tup xs, .tup ys => pyEqAll xs ys
  | _, _ => false
def pyEqAll : List D → List D → Bool
  | [], [] => true
  | x :: xs, y :: ys => pyEq x y && pyEqAll xs ys
  | _, _ => false
end
mutual
theorem Dt.dp {K : PySem.W.Frag} {H : Hp} : ∀ {v : V} {d : D}, okD d = true → Dt K H v d → Dp K H v (py d)
  | _, _, _, .non => .non
  | _, _, _, .bl b => .bl b
  | _, _, _, .int i => .int i
  | _, _, _, .str z => .str z
  | _, _, n, .lst h a => .lst (SqL.of h) (DtAll.dp n a)
  | _, _, n, .tup h a => .tup (.inl (.inl h)) (DtAll.dp n a)
  | _, _, n, .scr _ => by cases n
  | _, _, n, .dk _ _ _ => by cases n
  | _, _, n, .dt _ _ _ => by cases n
theorem DtAll.dp {K : PySem.W.Frag} {H : Hp} : ∀ {vs : List V} {ds : List D}, okAll ds = true → DtAll K H vs ds → DpAll K H vs (pyAll ds)
  | _, _, _, .nil => .nil
  | _, _, n, .cons a b => by
    simp only [okAll, Bool.and_eq_true] at n
    exact .cons (Dt.dp n.1 a) (DtAll.dp n.2 b)
end
mutual
theorem lay_py : ∀ {d : D}, okD d = true → PyData.canLay0 (py d) = true
  | .non, _ => rfl
  | .bl _, _ => rfl
  | .int _, _ => rfl
  | .str z, o => Dear.strOk_asc fun c hc => by
    have := List.all_eq_true.mp (show (z.cps.toList.all fun c => decide (c < 128)) = true from o) c hc
    simpa using this
  | .lst _, o => layAll_py o
  | .tup _, o => layAll_py o
  | .scr _, o => by cases o
  | .dct _ _, o => by cases o
  | .exc _ _, o => by cases o
theorem layAll_py : ∀ {ds : List D}, okAll ds = true → PyData.canLayAll0 (pyAll ds) = true
  | [], _ => rfl
  | d :: ds, o => by
    simp only [okAll, Bool.and_eq_true] at o
    show (PyData.canLay0 (py d) && PyData.canLayAll0 (pyAll ds)) = true
    rw [lay_py o.1, layAll_py o.2]
    rfl
end
mutual
theorem dep_py : ∀ d : D, PyData.depth (py d) = dep d
  | .non => rfl
  | .bl _ => rfl
  | .int _ => rfl
  | .str _ => rfl
  | .lst ds => congrArg (· + 1) (depAll_py ds)
  | .tup ds => congrArg (· + 1) (depAll_py ds)
  | .scr _ => rfl
  | .dct _ _ => rfl
  | .exc _ _ => rfl
theorem depAll_py : ∀ ds : List D, PyData.depthAll (pyAll ds) = depAll ds
  | [] => rfl
  | d :: ds => by
    show max (PyData.depth (py d)) (PyData.depthAll (pyAll ds)) = max (dep d) (depAll ds)
    rw [dep_py d, depAll_py ds]
end
mutual
theorem Dp.mono {K : PySem.W.Frag} {F H : Hp} (s : Same F H) : ∀ {v : V} {d : PyData}, Dp K F v d → Dp K H v d
  | _, _, .non => .non
  | _, _, .bl b => .bl b
  | _, _, .int i => .int i
  | _, _, .str z => .str z
  | _, _, .lst h a => .lst ((Below.of s).sql h) (DpAll.mono s a)
  | _, _, .tup h a => .tup ((Below.of s).sqt h) (DpAll.mono s a)
theorem DpAll.mono {K : PySem.W.Frag} {F H : Hp} (s : Same F H) : ∀ {v : List V} {d : List PyData}, DpAll K F v d → DpAll K H v d
  | _, _, .nil => .nil
  | _, _, .cons a b => .cons (Dp.mono s a) (DpAll.mono s b)
end
theorem lay_ok {d : D} (h : lay d = true) : okD d = true := (Bool.and_eq_true_iff.mp h).1
theorem lay_shaped {d : D} (h : lay d = true) : SeqAt.shaped (py d) = true := by
  unfold lay at h
  rw [Bool.and_eq_true, decide_eq_true_eq] at h
  show (PyData.canLay0 (py d) && decide (PyData.depth (py d) ≤ 64)) = true
  rw [lay_py h.1, dep_py, decide_eq_true (by omega)]
  rfl
mutual
theorem eqv_py : ∀ {a b : D}, okD a = true → okD b = true → PyData.eqv (py a) (py b) = pyEq a b := by
  intro a b ha hb
  cases a <;> cases b <;> first
    | rfl
    | (exfalso; revert ha; simp [okD]; done)
    | (exfalso; revert hb; simp [okD]; done)
    | (simp only [py, PyData.eqv, pyEq]; done)
    | (simp only [py, PyData.eqv, pyEq]; exact eqvAll_py ha hb)
    | skip
theorem eqvAll_py : ∀ {a b : List D}, okAll a = true → okAll b = true → PyData.eqvAll (pyAll a) (pyAll b) = pyEqAll a b
  | [], [], _, _ => rfl
  | [], _ :: _, _, _ => rfl
  | _ :: _, [], _, _ => rfl
  | x :: xs, y :: ys, ha, hb => by
    simp only [okAll, Bool.and_eq_true] at ha hb
    show (PyData.eqv (py x) (py y) && PyData.eqvAll (pyAll xs) (pyAll ys)) = (pyEq x y && pyEqAll xs ys)
    rw [eqv_py ha.1 hb.1, eqvAll_py ha.2 hb.2]
end
/-! ### == and != -/
/-- pairs of which == asks no more -/
def scalD : D → D → Bool
  | .non, .non => true | .non, .int _ => true | .int _, .non => true | .non, .bl _ => true | .bl _, .non => true | .non, .str _ => true | .str _, .non => true
  | .int _, .int _ => true | .bl _, .bl _ => true | .str _, .str _ => true
  | .int _, .str _ => true | .str _, .int _ => true | .bl _, .str _ => true | .str _, .bl _ => true
  | _, _ => false
theorem scal_of {K : PySem.W.Frag} {F : Hp} {x y : V} {a b : D} (h : scalD a b = true) (hx : Dt K F x a) (hy : Dt K F y b) : scal x y = true ∧ decide (x = y) = pyEq a b := by
  cases hx <;> cases hy <;> first
    | (exfalso; revert h; simp [scalD]; done)
    | (refine ⟨rfl, ?_⟩; simp [pyEq]; done)
    | skip
  · refine ⟨rfl, ?_⟩
    simp only [pyEq, V.bl.injEq]
    rename_i a b
    cases a <;> cases b <;> rfl
def dEq (a b : D) : Res D := if (scalD a b || (lay a && lay b)) = true then .ok (.bl (pyEq a b)) else .bad
def dNe (a b : D) : Res D := if (scalD a b || (lay a && lay b)) = true then .ok (.bl (!pyEq a b)) else .bad
section
variable {K : PySem.W.Frag} {X : Cx}
def rEqA (K : PySem.W.Frag) : R2 := fun x y H Q => rEq x y H Q ∨ rEqD K x y H Q
def rNeA (K : PySem.W.Frag) : R2 := fun x y H Q => rNe x y H Q ∨ rNeD K x y H Q
theorem op_eqA (hu : X.A.units + 64 < cLine) (h : X.K = K := by rfl) : OpR X (compareOp .Eq) (rEqA K) := OpR.or op_eq (h ▸ op_eqD hu)
theorem op_neA (hu : X.A.units + 64 < cLine) (h : X.K = K := by rfl) : OpR X (compareOp .NotEq) (rNeA K) := OpR.or op_ne (h ▸ op_neD hu)
theorem opd_eq : OpD K (rEqA K) dEq := by
  intro xm σ F H x y a b Q s hx hy k
  obtain ⟨f, k⟩ := Po.ite k
  rcases Bool.or_eq_true_iff.mp f with f | f
  · obtain ⟨h1, h2⟩ := scal_of f hx hy
    exact .inl ⟨h1, by rw [h2]; exact k.done s (.bl _)⟩
  · rw [Bool.and_eq_true] at f
    refine .inr ⟨_, _, Dp.mono s (Dt.dp (lay_ok f.1) hx), Dp.mono s (Dt.dp (lay_ok f.2) hy), lay_shaped f.1, lay_shaped f.2, ?_⟩
    rw [eqv_py (lay_ok f.1) (lay_ok f.2)]
    exact k.done s (.bl _)
theorem opd_ne : OpD K (rNeA K) dNe := by
  intro xm σ F H x y a b Q s hx hy k
  obtain ⟨f, k⟩ := Po.ite k
  rcases Bool.or_eq_true_iff.mp f with f | f
  · obtain ⟨h1, h2⟩ := scal_of f hx hy
    exact .inl ⟨h1, by rw [h2]; exact k.done s (.bl _)⟩
  · rw [Bool.and_eq_true] at f
    refine .inr ⟨_, _, Dp.mono s (Dt.dp (lay_ok f.1) hx), Dp.mono s (Dt.dp (lay_ok f.2) hy), lay_shaped f.1, lay_shaped f.2, ?_⟩
    rw [eqv_py (lay_ok f.1) (lay_ok f.2)]
    exact k.done s (.bl _)
/-! ### <, <=, >, >= of whole numbers -/
def dCmp (p : Int → Int → Bool) : D → D → Res D
  | .int a, .int b => .ok (.bl (p a b))
  | _, _ => .bad
theorem opd_cmp {p : Int → Int → Bool} : OpD K (rI0 fun i j => .bl (p i j)) (dCmp p) := by
  intro xm σ F H x y a b Q s hx hy k
  unfold dCmp at k
  split at k
  · rw [hx.intE, hy.intE]
    exact ⟨_, _, rfl, rfl, k.done s (.bl _)⟩
  · exact k.elim
abbrev dLt := dCmp fun i j => decide (i < j)
abbrev dLe := dCmp fun i j => decide (i ≤ j)
abbrev dGt := dCmp fun i j => decide (j < i)
abbrev dGe := dCmp fun i j => decide (j ≤ i)
theorem opd_lt : OpD K (rI0 fun i j => .bl (decide (i < j))) dLt := opd_cmp
theorem opd_le : OpD K (rI0 fun i j => .bl (decide (i ≤ j))) dLe := opd_cmp
theorem opd_gt : OpD K (rI0 fun i j => .bl (decide (j < i))) dGt := opd_cmp
theorem opd_ge : OpD K (rI0 fun i j => .bl (decide (j ≤ i))) dGe := opd_cmp
/-! ### is None -/
def isNon : D → Bool
  | .non => true
  | _ => false
theorem isNon_of {F : Hp} {v : V} {d : D} (h : Dt K F v d) : decide (v = .non) = isNon d := by
  cases h <;> first
    | rfl
    | (refine decide_eq_false ?_; intro e; cases e)
def dIsN (a b : D) : Res D := if isNon b = true then .ok (.bl (isNon a)) else .bad
def dNotN (a b : D) : Res D := if isNon b = true then .ok (.bl (!isNon a)) else .bad
theorem isNonE {F : Hp} {v : V} {d : D} (h : Dt K F v d) (e : isNon d = true) : v = .non := by
  have := isNon_of h
  rw [e] at this
  exact of_decide_eq_true this
theorem opd_isN : OpD K (fun x y H Q => y = .non ∧ Q (.bl (decide (x = .non))) H) dIsN := by
  intro xm σ F H x y a b Q s hx hy k
  obtain ⟨f, k⟩ := Po.ite k
  exact ⟨isNonE hy f, by rw [isNon_of hx]; exact k.done s (.bl _)⟩
theorem opd_notN : OpD K (fun x y H Q => y = .non ∧ Q (.bl (!decide (x = .non))) H) dNotN := by
  intro xm σ F H x y a b Q s hx hy k
  obtain ⟨f, k⟩ := Po.ite k
  exact ⟨isNonE hy f, by rw [isNon_of hx]; exact k.done s (.bl _)⟩
end
end Du

namespace Du
open PySem PySem.Spec PyProof.Rows L2
section
variable {K : PySem.W.Frag} {X : Cx}
/-! ### dicts with flat keys, as data -/
noncomputable def dGet (kvs : List (D × D)) (k : D) : Option D := (kvs.find? fun p => decide (p.1 = k)).map (·.2)
def dKeyOk : D → Bool
  | .int _ => true
  | .str _ => true
  | _ => false
theorem keyE {F : Hp} {v : V} {d : D} (h : Dt K F v d) (o : dKeyOk d = true) : ∃ k : Key, v = kV k ∧ d = keyD k := by
  cases d with
  | int i => exact ⟨.inl i, h.intE, rfl⟩
  | str z => exact ⟨.inr z, h.strE, rfl⟩
  | _ => cases o
theorem dGet_of {F : Hp} : ∀ {kvs : List (Key × V)} {ds : List (D × D)} {k : Key}, DtAll K F (kvs.map (·.2)) (ds.map (·.2)) → ds.map (·.1) = kvs.map (fun p => keyD p.1) →
    (∀ d, dGet ds (keyD k) = some d → ∃ v, valV kvs k = some v ∧ Dt K F v d) ∧ (dGet ds (keyD k)).isSome = (valV kvs k).isSome
  | [], [], _, _, _ => ⟨(fun _ e => nomatch e), rfl⟩
  | [], _ :: _, _, _, e => by simp at e
  | _ :: _, [], _, _, e => by simp at e
  | p :: kvs, q :: ds, k, h, e => by
    simp only [List.map_cons] at h e
    cases h with
    | cons h1 h2 =>
      injection e with e1 e2
      obtain ⟨i1, i2⟩ := dGet_of (k := k) h2 e2
      by_cases c : p.1 = k
      · have c' : q.1 = keyD k := by rw [e1, c]
        rw [valV_pos c]
        have g : dGet (q :: ds) (keyD k) = some q.2 := by simp [dGet, List.find?_cons, c']
        rw [g]
        exact ⟨fun d e => by cases e; exact ⟨_, rfl, h1⟩, rfl⟩
      · have c' : ¬ q.1 = keyD k := fun z => c (keyD_inj (by rw [← e1, z]))
        rw [valV_neg c]
        have g : dGet (q :: ds) (keyD k) = dGet ds (keyD k) := by simp [dGet, List.find?_cons, c']
        rw [g]
        exact ⟨i1, i2⟩
/-! ### in, not in -/
def rInDk (neg : Bool) : R2 := fun y x H Q => ∃ a o, x = .ref a ∧ DGet H a y o ∧ Q (.bl (if neg then !o.isSome else o.isSome)) H
theorem op_inDk (hu : X.A.units + 1 < cLine) : OpR X (compareOp .In) (rInDk false) := by
  intro pins s σ H y x u v Q I ry rx h
  obtain ⟨a, o, rfl, g, q⟩ := h
  cases (show v = Value.ref a from rx)
  exact d_in hu I g ry fun s' I' => ⟨.bl o.isSome, H, I', rfl, q⟩
theorem op_notInDk (hu : X.A.units + 1 < cLine) : OpR X (compareOp .NotIn) (rInDk true) := by
  intro pins s σ H y x u v Q I ry rx h
  obtain ⟨a, o, rfl, g, q⟩ := h
  cases (show v = Value.ref a from rx)
  exact d_notIn hu I g ry fun s' I' => ⟨.bl (!o.isSome), H, I', rfl, q⟩
def rInA (K : PySem.W.Frag) : R2 := fun x y H Q => (((fun x y H Q => ∃ (c : Nat) (z : Str), x = .str ⟨#[c]⟩ ∧ y = .str z ∧ Q (.bl (decide (c ∈ z.cps.toList))) H) x y H Q ∨ rIn K false x y H Q) ∨ rInD K x y H Q) ∨ rInDk false x y H Q
def rNotInA (K : PySem.W.Frag) : R2 := fun x y H Q => (((fun x y H Q => ∃ (c : Nat) (z : Str), x = .str ⟨#[c]⟩ ∧ y = .str z ∧ Q (.bl (!decide (c ∈ z.cps.toList))) H) x y H Q ∨ rIn K true x y H Q) ∨ rNotInD K x y H Q) ∨ rInDk true x y H Q
theorem op_inA (hu : X.A.units + 64 + 1 < cLine) (h : X.K = K := by rfl) : OpR X (compareOp .In) (rInA K) := OpR.or (OpR.or (OpR.or op_in_sign (h ▸ op_in_seq)) (h ▸ op_inD hu)) (op_inDk (by omega))
theorem op_notInA (hu : X.A.units + 64 + 1 < cLine) (h : X.K = K := by rfl) : OpR X (compareOp .NotIn) (rNotInA K) := OpR.or (OpR.or (OpR.or op_notIn_sign (h ▸ op_notIn_seq)) (h ▸ op_notInD hu)) (op_notInDk (by omega))
def flatD : D → Bool
  | .non => true
  | .bl _ => true
  | .int _ => true
  | .str _ => true
  | _ => false
theorem flat_of {F : Hp} {v : V} {d : D} (h : Dt K F v d) (f : flatD d = true) : flatV v = true := by
  cases h <;> first | rfl | cases f
theorem flats_of {F : Hp} : ∀ {vs : List V} {ds : List D}, DtAll K F vs ds → ds.all flatD = true → vs.all flatV = true
  | _, _, .nil, _ => rfl
  | _, _, .cons a b, f => by
    rw [List.all_cons, Bool.and_eq_true] at f
    rw [List.all_cons, flat_of a f.1, flats_of b f.2]
    rfl
theorem eqV_of {F : Hp} {x y : V} {a b : D} (hx : Dt K F x a) (hy : Dt K F y b) (fa : flatD a = true) (fb : flatD b = true) : eqV x y = pyEq a b := by
  cases hx <;> cases hy <;> first
    | rfl
    | (cases fa; done)
    | (cases fb; done)
    | skip
/-- one of a list equals d -/
def inL (d : D) (ds : List D) : Bool := ds.any fun e => pyEq e d
theorem inV_of {F : Hp} {x : V} {d : D} (hx : Dt K F x d) (fx : flatD d = true) : ∀ {vs : List V} {ds : List D}, DtAll K F vs ds → ds.all flatD = true → inV x vs = inL d ds
  | _, _, .nil, _ => rfl
  | _, _, .cons a b, f => by
    rw [List.all_cons, Bool.and_eq_true] at f
    have ih := inV_of hx fx b f.2
    unfold inV inL at ih ⊢
    rw [List.any_cons, List.any_cons, eqV_of a hx f.1 fx, ih]
theorem pyAll_map : ∀ ds : List D, pyAll ds = ds.map py
  | [] => rfl
  | d :: ds => by rw [List.map_cons, ← pyAll_map ds]; rfl
theorem inD_of {d : D} (o : okD d = true) : ∀ {ds : List D}, okAll ds = true → (pyAll ds).any (fun e => PyData.eqv e (py d)) = inL d ds
  | [], _ => rfl
  | e :: ds, h => by
    simp only [okAll, Bool.and_eq_true] at h
    have ih := inD_of o h.2
    unfold inL at ih ⊢
    show ((PyData.eqv (py e) (py d)) || (pyAll ds).any fun e => PyData.eqv e (py d)) = _
    rw [List.any_cons, eqv_py h.1 o, ih]
noncomputable def dIn (neg : Bool) : D → D → Res D
  | .str a, .str b => match a.cps.toList with
    | [c] => .ok (.bl (neg ^^ decide (c ∈ b.cps.toList)))
    | _ => .bad
  | d, .lst ds => if (flatD d && ds.all flatD) || (lay d && lay (.lst ds)) then .ok (.bl (neg ^^ inL d ds)) else .bad
  | d, .tup ds => if (flatD d && ds.all flatD) then .ok (.bl (neg ^^ inL d ds)) else .bad
  | d, .dct false kvs => if dKeyOk d then .ok (.bl (neg ^^ (dGet kvs d).isSome)) else .bad
  | _, _ => .bad
theorem one_sign {a : Str} {c : Nat} (h : a.cps.toList = [c]) : a = ⟨#[c]⟩ := by
  obtain ⟨⟨l⟩⟩ := a
  simp only at h
  subst h
  rfl
theorem opd_in (neg : Bool) : OpD K (if neg then rNotInA K else rInA K) (dIn neg) := by
  intro xm σ F H x y a b Q s hx hy k
  unfold dIn at k
  split at k
  · split at k
    · rename_i c e
      rw [hx.strE, hy.strE, one_sign e]
      have q := k.done s (.bl _)
      cases neg
      · exact .inl (.inl (.inl ⟨c, _, rfl, rfl, by simpa using q⟩))
      · exact .inl (.inl (.inl ⟨c, _, rfl, rfl, by simpa using q⟩))
    · exact k.elim
  · obtain ⟨f, k⟩ := Po.ite k
    obtain ⟨p, xs, rfl, h1, h2⟩ := hy.lstE
    have q := k.done s (.bl _)
    rcases Bool.or_eq_true_iff.mp f with f | f
    · rw [Bool.and_eq_true] at f
      rw [← inV_of hx f.1 h2 f.2] at q
      cases neg
      · exact .inl (.inl (.inr ⟨p, xs, rfl, .inl (SqL.of (s _ _ h1)), flat_of hx f.1, flats_of h2 f.2, by simpa using q⟩))
      · exact .inl (.inl (.inr ⟨p, xs, rfl, .inl (SqL.of (s _ _ h1)), flat_of hx f.1, flats_of h2 f.2, by simpa using q⟩))
    · rw [Bool.and_eq_true] at f
      have ok2 := lay_ok f.2
      rw [← inD_of (lay_ok f.1) (show okAll _ = true from ok2)] at q
      have d1 := Dp.mono s (Dt.dp (lay_ok f.1) hx)
      have d2 := Dp.mono s (Dt.dp ok2 hy)
      cases neg
      · exact .inl (.inr ⟨_, _, d1, d2, lay_shaped f.1, lay_shaped f.2, by simpa using q⟩)
      · exact .inl (.inr ⟨_, _, d1, d2, lay_shaped f.1, lay_shaped f.2, by simpa using q⟩)
  · obtain ⟨f, k⟩ := Po.ite k
    obtain ⟨p, xs, rfl, h1, h2⟩ := hy.tupE
    have q := k.done s (.bl _)
    rw [Bool.and_eq_true] at f
    rw [← inV_of hx f.1 h2 f.2] at q
    cases neg
    · exact .inl (.inl (.inr ⟨p, xs, rfl, .inr ((Below.of s).sqt h1), flat_of hx f.1, flats_of h2 f.2, by simpa using q⟩))
    · exact .inl (.inl (.inr ⟨p, xs, rfl, .inr ((Below.of s).sqt h1), flat_of hx f.1, flats_of h2 f.2, by simpa using q⟩))
  · obtain ⟨f, k⟩ := Po.ite k
    obtain ⟨key, rfl, rfl⟩ := keyE hx f
    have q := k.done s (.bl _)
    cases hy with
    | dk h1 h2 h3 =>
      rw [(dGet_of h2 h3).2] at q
      have g : DGet H _ (kV key) _ := .inl ⟨_, key, (Below.of s).rd h1, rfl, rfl⟩
      cases neg
      · exact .inr ⟨_, _, rfl, g, by simpa using q⟩
      · exact .inr ⟨_, _, rfl, g, by simpa using q⟩
  · exact k.elim
theorem opd_inF : OpD K (rInA K) (dIn false) := opd_in false
theorem opd_inT : OpD K (rNotInA K) (dIn true) := opd_in true
/-! ### subscripts -/
def rIxDk : R2 := fun x y H Q => ∃ a v, x = .ref a ∧ DGet H a y (some v) ∧ Q v H
theorem ix_dk (hu : X.A.units + 1 < cLine) : IxR X rIxDk := by
  intro value slice pins s σ H x y v u Q I rx ry h hs
  obtain ⟨a, w, rfl, g, q⟩ := h
  cases (show v = Value.ref a from rx)
  have hT := dict_typeIs I g
  unfold subscriptTail
  refine wpAny_bind ?_
  rw [getitemInPython_of_ne hT.not_modules]
  refine wpAny_bind (wpAny_specialOf hT PySem.F.slot_dict_getitem.lookup ?_)
  have fin : wpAny (model X.prog X.w) X.A (subscripted slice false (.ref a) u) (fun r s₃ => wpAny (model X.prog X.w) X.A (letTemporaryGo value (.ref a) r >>= fun _ => pure r) (EP X pins σ Q) X.xe s₃) X.xe s := by
    rw [hs]
    exact wpAny_operating (wpAny_mono (d_getItem hu I g ry fun w' s' I' r' => ⟨w, H, I', r', q⟩) (fun r s₃ h₃ => wpAny_bind (wpAny_letTemporaryGo (wpAny_pure h₃))) fun _ _ x => x)
  first
    | exact wpAny_pure (wpAny_bind fin)
    | exact wpAny_bind (wpAny_pure (wpAny_bind fin))
    | exact wpAny_bind fin
def rIxA (K : PySem.W.Frag) : R2 := fun x y H Q => ((rIxL K x y H Q ∨ rIxT K x y H Q) ∨ rIxS x y H Q) ∨ rIxDk x y H Q
theorem ix_A (hu : X.A.units + 1 < cLine) (h : X.K = K := by rfl) : IxR X (rIxA K) := IxR.or (IxR.or (IxR.or (h ▸ ix_list) (h ▸ ix_tup)) ix_str) (ix_dk hu)
noncomputable def dIx : D → D → Res D
  | .lst ds, .int i => match atI ds i with
    | some d => .ok d
    | none => .bad
  | .tup ds, .int i => match atI ds i with
    | some d => .ok d
    | none => .bad
  | .scr ns, .int i => match atI ns i with
    | some n => .ok (.int n)
    | none => .bad
  | .str z, .int i => if fit z.length = true then match atI z.cps.toList i with
    | some c => .ok (.str ⟨#[c]⟩)
    | none => .bad else .bad
  | .dct false kvs, k => if dKeyOk k = true then match dGet kvs k with
    | some d => .ok d
    | none => .bad else .bad
  | _, _ => .bad
theorem DtAll.atI {F : Hp} {vs : List V} {ds : List D} {i : Int} {d : D} (h : DtAll K F vs ds) (e : atI ds i = some d) : ∃ v, L2.atI vs i = some v ∧ Dt K F v d := by
  unfold L2.atI at e ⊢
  rw [h.length]
  obtain ⟨j, e1, e2⟩ := Option.bind_eq_some_iff.mp e
  obtain ⟨v, e3, e4⟩ := DtAll.at h e2
  exact ⟨v, by rw [e1]; exact e3, e4⟩
theorem atI_map {α β : Type} {f : α → β} {xs : List α} {i : Int} {a : α} (e : atI xs i = some a) : atI (xs.map f) i = some (f a) := by
  unfold L2.atI at e ⊢
  rw [List.length_map]
  obtain ⟨j, e1, e2⟩ := Option.bind_eq_some_iff.mp e
  rw [e1]
  show (xs.map f)[j]? = _
  rw [List.getElem?_map, e2]
  rfl
theorem opd_ix : OpD K (rIxA K) dIx := by
  intro xm σ F H x y a b Q s hx hy k
  unfold dIx at k
  split at k
  · split at k
    · rename_i d e
      obtain ⟨p, xs, rfl, h1, h2⟩ := hx.lstE
      obtain ⟨v, e1, e2⟩ := h2.atI e
      rw [hy.intE]
      exact .inl (.inl (.inl ⟨_, _, _, _, rfl, rfl, SqL.of (s _ _ h1), e1, k.done s e2⟩))
    · exact k.elim
  · split at k
    · rename_i d e
      obtain ⟨p, xs, rfl, h1, h2⟩ := hx.tupE
      obtain ⟨v, e1, e2⟩ := h2.atI e
      rw [hy.intE]
      exact .inl (.inl (.inr ⟨_, _, _, _, rfl, rfl, (Below.of s).sqt h1, e1, k.done s e2⟩))
    · exact k.elim
  · split at k
    · rename_i d e
      rw [hy.intE]
      cases hx with
      | scr h1 => exact .inl (.inl (.inl ⟨_, _, _, _, rfl, rfl, (Below.of s).sql h1, atI_map e, k.done s (.int _)⟩))
    · exact k.elim
  · obtain ⟨f, k⟩ := Po.ite k
    split at k
    · rename_i c e
      rw [hx.strE, hy.intE]
      exact .inl (.inr ⟨_, _, _, rfl, rfl, Nat.le_of_lt (fit_line f), e, k.done s (.str _)⟩)
    · exact k.elim
  · obtain ⟨f, k1⟩ := Po.ite k
    clear k
    split at k1
    · rename_i d e
      obtain ⟨key, rfl, rfl⟩ := keyE hy f
      cases hx with
      | dk h1 h2 h3 =>
        obtain ⟨v, e1, e2⟩ := (dGet_of h2 h3).1 _ e
        exact .inr ⟨_, v, rfl, .inl ⟨_, key, (Below.of s).rd h1, rfl, e1.symm⟩, k1.done s e2⟩
    · exact k1.elim
  · exact k.elim
theorem fe_ix {xm : XMo} {a b : Expr} {pos : Pos} {r : R2} {g : D → D → Res D} {fa fb : VEnv → Res D} (hr : IxR X r) (h : OpD K r g) (ha : FE K xm X a fa) (hb : FE K xm X b fb) (hs : PlainIx b := by intro _ _; rfl) : FE K xm X (.Subscript a b pos) (eOp g fa fb) :=
  PE.to (pe_ix hr ha hb hs) fun _ _ _ k => k.op h
/-! ### slices -/
def dPart : D → Res (Option Int)
  | .int i => .ok (some i)
  | _ => .bad
def pNo : VEnv → Res (Option Int) := fun _ => .ok none
def pYes (f : VEnv → Res D) : VEnv → Res (Option Int) := fun ρ => (f ρ).bind dPart
def cutD {α : Type} (xs : List α) (lo hi : Option Int) : List α := (xs.drop (HT.sIx xs.length 0 lo)).take (HT.sIx xs.length xs.length hi - HT.sIx xs.length 0 lo)
def dSl : D → Option Int → Option Int → Res D
  | .lst ds, lo, hi => .ok (.lst (cutD ds lo hi))
  | .tup ds, lo, hi => .ok (.tup (cutD ds lo hi))
  | .scr ns, lo, hi => .ok (.lst ((cutD ns lo hi).map D.int))
  | .str z, lo, hi => if fit z.length = true then .ok (.str (cutS z lo hi)) else .bad
  | _, _, _ => .bad
def eSl (fe : VEnv → Res D) (fl fh : VEnv → Res (Option Int)) : VEnv → Res D := fun ρ => (fe ρ).bind fun a => (fl ρ).bind fun l => (fh ρ).bind fun h => dSl a l h
abbrev RO : Hp → Option Int → Option Int → Prop := fun _ b c => b = c
def oF (K : PySem.W.Frag) (xm : XMo) (f : VEnv → Res (Option Int)) : TO := fun σ H Q => ∃ F ρ, Same F H ∧ Vw K F σ ρ ∧ Po RO K xm σ F H (f ρ) Q
abbrev FO (K : PySem.W.Frag) (xm : XMo) (X : Cx) (e : Option Expr) (f : VEnv → Res (Option Int)) : Prop := PO X e (oF K xm f)
theorem PO.to {e : Option Expr} {t t' : TO} (h : PO X e t) (m : ∀ σ H Q, t' σ H Q → t σ H Q) : PO X e t' := ⟨fun pins s σ H Q I q => h.run pins s σ H Q I (m _ _ _ q)⟩
theorem fo_no {xm : XMo} : FO K xm X none pNo := PO.to po_none fun σ H Q ⟨F, ρ, sF, vw, k⟩ => k.done sF rfl
theorem fo_yes {xm : XMo} {e : Expr} {f : VEnv → Res D} (h : FE K xm X e f) : FO K xm X (some e) (pYes f) := PO.to (po_some h) fun σ H Q ⟨F, ρ, sF, vw, k⟩ => ⟨F, ρ, sF, vw, Po.seq k fun a x F1 H1 g1 d1 k1 => by
  unfold dPart at k1
  split at k1
  · rw [d1.intE]
    exact ⟨_, rfl, k1.done g1.fh rfl⟩
  · exact k1.elim⟩
def rSlAll (K : PySem.W.Frag) : V → Option Int → Option Int → Hp → VK → Prop := fun x lo hi H Q => (rSlL K x lo hi H Q ∨ rSlA K x lo hi H Q) ∨ rSlS x lo hi H Q
theorem sl_all (h : X.K = K := by rfl) : SlR X (rSlAll K) := SlR.or (SlR.or (h ▸ sl_list) (h ▸ sl_tupA)) sl_str
theorem DtAll.cut {F : Hp} {vs : List V} {ds : List D} (h : DtAll K F vs ds) (lo hi : Option Int) : DtAll K F (cutV vs lo hi) (cutD ds lo hi) := by
  unfold cutV cutD
  rw [h.length]
  exact (h.drop _).take _
theorem cut_map {α β : Type} (f : α → β) (xs : List α) (lo hi : Option Int) : cutD (xs.map f) lo hi = (cutD xs lo hi).map f := by
  unfold cutD
  rw [List.length_map, List.map_take, List.map_drop]
theorem cutV_map {α : Type} (f : α → V) (xs : List α) (lo hi : Option Int) : cutV (xs.map f) lo hi = (cutD xs lo hi).map f := cut_map f xs lo hi
theorem cut_whole {α : Type} {xs : List α} {lo hi : Option Int} (h : HT.sIx xs.length 0 lo = 0 ∧ HT.sIx xs.length xs.length hi = xs.length) : cutD xs lo hi = xs := by
  unfold cutD
  rw [h.1, h.2]
  simp
theorem fe_sl {xm : XMo} {e : Expr} {lo hi : Option Expr} {p2 pos : Pos} {fe : VEnv → Res D} {fl fh : VEnv → Res (Option Int)} (he : FE K xm X e fe) (hl : FO K xm X lo fl) (hh : FO K xm X hi fh) (hk : X.K = K := by rfl) :
    FE K xm X (.Subscript e (.Slice lo hi none p2) pos) (eSl fe fl fh) := PE.to (pe_slice (sl_all hk) he hl hh) fun σ H Q ⟨F, ρ, sF, vw, k⟩ => ⟨F, ρ, sF, vw, Po.seq k fun a x F1 H1 g1 d1 k1 =>
  ⟨F1, ρ, g1.fh, vw.same g1.ff, Po.seq k1 fun l l' F2 H2 g2 d2 k2 => ⟨F2, ρ, g2.fh, vw.same (g1.ff.trans g2.ff), Po.seq k2 fun h h' F3 H3 g3 d3 k3 => by
    subst d2 d3
    have s := g3.fh
    have d := (d1.same g2.ff).same g3.ff
    unfold dSl at k3
    split at k3
    · obtain ⟨p, xs, rfl, h1, h2⟩ := d.lstE
      exact .inl (.inl ⟨p, xs, rfl, SqL.of (s _ _ h1), fun q hq => k3.new s hq (.lst upd_same ((h2.cut l' h').same (sm_upd (s.free hq))))⟩)
    · obtain ⟨p, xs, rfl, h1, h2⟩ := d.tupE
      refine .inl (.inr ⟨p, xs, rfl, (Below.of s).sqt h1, fun w => ?_, fun _ q hq => k3.new s hq (.tup upd_same ((h2.cut l' h').same (sm_upd (s.free hq))))⟩)
      rw [h2.length] at w
      rw [cut_whole w] at k3
      exact k3.done s d
    · cases d with
      | scr h1 => exact .inl (.inl ⟨_, _, rfl, (Below.of s).sql h1, fun q hq => k3.new s hq (.lst upd_same (by rw [cutV_map]; exact Dt.ints _))⟩)
    · obtain ⟨f, k3⟩ := Po.ite k3
      rw [d.strE]
      exact .inr ⟨_, rfl, Nat.le_of_lt (fit_line f), k3.done s (.str _)⟩
    · exact k3.elim⟩⟩⟩
end
end Du

namespace Du
open PySem PySem.Spec PyProof.Rows L2
section
variable {K : PySem.W.Frag} {xm : XMo} {X : Cx}
/-! ### arguments, displays -/
def aNil : VEnv → Res (List D) := fun _ => .ok []
def aCons (f : VEnv → Res D) (g : VEnv → Res (List D)) : VEnv → Res (List D) := fun ρ => (f ρ).bind fun a => (g ρ).bind fun as => .ok (a :: as)
theorem fa_nil : FA K xm X [] aNil := PA.to pa_nil fun σ H Q ⟨F, ρ, sF, vw, k⟩ => k.done sF .nil
theorem fa_cons {e : Expr} {es : List Expr} {f : VEnv → Res D} {g : VEnv → Res (List D)} (h : FE K xm X e f) (r : FA K xm X es g) (hs : starEach (e :: es) X.env = (false, eval e X.env) :: starEach es X.env := by rfl) : FA K xm X (e :: es) (aCons f g) :=
  PA.to (pa_cons h r hs) fun σ H Q ⟨F, ρ, sF, vw, k⟩ => ⟨F, ρ, sF, vw, Po.seq k fun a x F1 H1 g1 d1 k1 => ⟨F1, ρ, g1.fh, vw.same g1.ff, Po.seq k1 fun b y F2 H2 g2 d2 k2 =>
    k2.done g2.fh (.cons (d1.same g2.ff) d2)⟩⟩
def eTup (f : VEnv → Res (List D)) : VEnv → Res D := fun ρ => (f ρ).bind fun as => if fit as.length = true then .ok (.tup as) else .bad
def eLst (f : VEnv → Res (List D)) : VEnv → Res D := fun ρ => (f ρ).bind fun as => if fit as.length = true then .ok (.lst as) else .bad
theorem fe_tup {es : List Expr} {kk : Nat} {pos : Pos} {f : VEnv → Res (List D)} (h : FA K xm X es f) : FE K xm X (.Tuple es kk pos) (eTup f) :=
  PE.to (pe_tup h) fun σ H Q ⟨F, ρ, sF, vw, k⟩ => ⟨F, ρ, sF, vw, Po.seq k fun a xs F1 H1 g1 d1 k1 => by
    obtain ⟨f, k1⟩ := Po.ite k1
    exact ⟨by rw [d1.length]; exact Nat.le_of_lt (fit_line f), fun p hp => k1.new g1.fh hp (.tup upd_same (d1.same (sm_upd (g1.fh.free hp))))⟩⟩
theorem fe_lst {es : List Expr} {pos : Pos} {f : VEnv → Res (List D)} (h : FA K xm X es f) : FE K xm X (.List es pos) (eLst f) :=
  PE.to (pe_lst h) fun σ H Q ⟨F, ρ, sF, vw, k⟩ => ⟨F, ρ, sF, vw, Po.seq k fun a xs F1 H1 g1 d1 k1 => by
    obtain ⟨f, k1⟩ := Po.ite k1
    exact ⟨by rw [d1.length]; exact Nat.le_of_lt (fit_line f), fun p hp => k1.new g1.fh hp (.lst upd_same (d1.same (sm_upd (g1.fh.free hp))))⟩⟩
def eDct0 : VEnv → Res D := fun _ => .ok (.dct false [])
theorem fe_dct0 {pos : Pos} : FE K xm X (.Dict [] [] pos) eDct0 := PE.to pe_dnewK fun σ H Q ⟨F, ρ, sF, vw, k⟩ p hp => k.new sF hp (.dk (.inl upd_same) .nil rfl)
/-! ### truth, tests -/
def dTru : D → Res Bool
  | .non => .ok false
  | .bl b => .ok b
  | .int i => .ok (i != 0)
  | .str z => if fit z.length = true then .ok ((z.length : Int) != 0) else .bad
  | .lst ds => .ok (!ds.isEmpty)
  | .tup ds => .ok (!ds.isEmpty)
  | _ => .bad
theorem isEmpty_all {F : Hp} {vs : List V} {ds : List D} (h : DtAll K F vs ds) : vs.isEmpty = ds.isEmpty := by cases h <;> rfl
theorem tru_of {F H : Hp} {v : V} {d : D} {b : Bool} (s : Same F H) (h : Dt K F v d) (e : dTru d = .ok b) : TruV K v H b := by
  unfold dTru at e
  split at e
  · cases e; rw [h.nonE]; exact rfl
  · cases e; rw [h.blE]; exact rfl
  · cases e; rw [h.intE]; exact rfl
  · rename_i z
    by_cases f : fit z.length = true
    · rw [if_pos f] at e; cases e; rw [h.strE]; exact ⟨Nat.le_of_lt (fit_line f), rfl⟩
    · rw [if_neg f] at e; cases e
  · cases e
    obtain ⟨p, xs, rfl, h1, h2⟩ := h.lstE
    exact .inl ⟨xs, SqL.of (s _ _ h1), by rw [isEmpty_all h2]⟩
  · cases e
    obtain ⟨p, xs, rfl, h1, h2⟩ := h.tupE
    exact .inr (.inl ⟨xs, (Below.of s).sqt h1, by rw [isEmpty_all h2]⟩)
  · cases e
theorem tru_exc {d : D} {x : Ex} : dTru d ≠ .exc x := by
  unfold dTru
  split <;> first
    | (intro e; cases e; done)
    | (split <;> intro e <;> cases e)
theorem Po.tru {α ω : Type} {R : Hp → ω → α → Prop} {σ : St} {F H : Hp} {d : D} {g : Bool → Res α} {Q : ω → Hp → Prop} (k : Po R K xm σ F H ((dTru d).bind g) Q) : ∃ b, dTru d = .ok b ∧ Po R K xm σ F H (g b) Q := by
  cases e : dTru d with
  | ok b => exact ⟨b, rfl, by rw [e] at k; exact k⟩
  | exc x => exact absurd e tru_exc
  | bad => rw [e] at k; exact k.elim
def bT (f : VEnv → Res D) : VEnv → Res Bool := fun ρ => (f ρ).bind dTru
theorem ft_tru {e : Expr} {f : VEnv → Res D} (h : FE K xm X e f) (hk : X.K = K := by rfl) (he : ∀ whole, isTrue e X.env whole = (do let v ← whole; standAt e.pos; holding [v] (truthy v)) := by intro _; rfl) : FT K xm X e (bT f) := by
  subst hk
  exact PT.to (pt_truth h he) fun σ H Q ⟨F, ρ, sF, vw, k⟩ => ⟨F, ρ, sF, vw, Po.seq k fun a x F1 H1 g1 d1 k1 => by
    cases e : dTru a with
    | ok b =>
      rw [e] at k1
      exact ⟨b, tru_of g1.fh d1 e, k1.done g1.fh rfl⟩
    | exc x => exact absurd e tru_exc
    | bad => rw [e] at k1; exact k1.elim⟩
theorem po_bl {σ : St} {F H : Hp} {r : Res D} {Q : Bool → Hp → Prop} (nb : ∀ d, r = .ok d → ∃ b, d = .bl b) (k : Po RB K xm σ F H (r.bind dTru) Q) : Po (RD K) K xm σ F H r fun v H' => ∃ c, v = V.bl c ∧ Q c H' := by
  cases e : r with
  | ok d =>
    obtain ⟨c, rfl⟩ := nb _ e
    rw [e] at k
    intro w F3 H3 g3 d3
    exact ⟨c, d3.blE, k c F3 H3 g3 rfl⟩
  | exc x => rw [e] at k; exact k
  | bad => rw [e] at k; exact k
/-- the operator tells a truth -/
def Bls (K : PySem.W.Frag) (r : R2) : Prop := ∀ x y H Q, r x y H Q → r x y H fun v H' => (∃ b, v = .bl b) ∧ Q v H'
theorem ft_cmp {a b : Expr} {op : CmpOp} {pos : Pos} {r : R2} {g : D → D → Res D} {fa fb : VEnv → Res D} (ho : OpR X (compareOp op) r) (h : OpD K r g) (hg : ∀ x y d, g x y = .ok d → ∃ b, d = .bl b) (ha : FE K xm X a fa) (hb : FE K xm X b fb)
    (hm : behindInMarks op b = false := by first | exact nomark _ | rfl) : FT K xm X (.Compare a [op] [b] pos) (bT (eOp g fa fb)) := PT.to (pt_cmpR ho ha hb hm) fun σ H Q ⟨F, ρ, sF, vw, k⟩ => by
  unfold bT eOp at k
  rw [Res.bind_assoc] at k
  refine ⟨F, ρ, sF, vw, Po.seq k fun a x F1 H1 g1 d1 k1 => ⟨F1, ρ, g1.fh, vw.same g1.ff, ?_⟩⟩
  rw [Res.bind_assoc] at k1
  refine Po.seq k1 fun b y F2 H2 g2 d2 k2 => h xm σ F2 H2 x y a b _ g2.fh (d1.same g2.ff) d2 ?_
  exact po_bl (fun d e => hg _ _ _ e) k2
def bNot (f : VEnv → Res Bool) : VEnv → Res Bool := fun ρ => (f ρ).bind fun b => .ok (!b)
def bAnd (f g : VEnv → Res Bool) : VEnv → Res Bool := fun ρ => (f ρ).bind fun b => if b = true then g ρ else .ok false
def bOr (f g : VEnv → Res Bool) : VEnv → Res Bool := fun ρ => (f ρ).bind fun b => if b = true then .ok true else g ρ
theorem ft_not {a : Expr} {pos : Pos} {f : VEnv → Res Bool} (h : FT K xm X a f) : FT K xm X (.UnaryOp .Not a pos) (bNot f) := PT.to (pt_not h) fun σ H Q ⟨F, ρ, sF, vw, k⟩ => ⟨F, ρ, sF, vw, Po.seq k fun a x F1 H1 g1 d1 k1 => by
  subst d1
  exact k1.done g1.fh rfl⟩
theorem fw_and1 {a : Expr} {pos : Pos} {f : VEnv → Res Bool} (h : FT K xm X a f) : FW K xm X (.BoolOp .And [a] pos) f := pw_and1 h
theorem fw_or1 {a : Expr} {pos : Pos} {f : VEnv → Res Bool} (h : FT K xm X a f) : FW K xm X (.BoolOp .Or [a] pos) f := pw_or1 h
theorem fw_and {a b : Expr} {rest : List Expr} {pos : Pos} {f g : VEnv → Res Bool} (h : FT K xm X a f) (r : FW K xm X (.BoolOp .And (b :: rest) pos) g) : FW K xm X (.BoolOp .And (a :: b :: rest) pos) (bAnd f g) :=
  PW.to (pw_and h r) fun σ H Q ⟨F, ρ, sF, vw, k⟩ => ⟨F, ρ, sF, vw, Po.seq k fun a x F1 H1 g1 d1 k1 => by
    subst d1
    cases x with
    | true =>
      rw [if_pos rfl] at k1
      exact iteT ⟨F1, ρ, g1.fh, vw.same g1.ff, k1⟩
    | false =>
      rw [if_neg Bool.false_ne_true] at k1
      exact iteF (k1.done g1.fh rfl)⟩
theorem fw_or {a b : Expr} {rest : List Expr} {pos : Pos} {f g : VEnv → Res Bool} (h : FT K xm X a f) (r : FW K xm X (.BoolOp .Or (b :: rest) pos) g) : FW K xm X (.BoolOp .Or (a :: b :: rest) pos) (bOr f g) :=
  PW.to (pw_or h r) fun σ H Q ⟨F, ρ, sF, vw, k⟩ => ⟨F, ρ, sF, vw, Po.seq k fun a x F1 H1 g1 d1 k1 => by
    subst d1
    cases x with
    | true =>
      rw [if_pos rfl] at k1
      exact iteT (k1.done g1.fh rfl)
    | false =>
      rw [if_neg Bool.false_ne_true] at k1
      exact iteF ⟨F1, ρ, g1.fh, vw.same g1.ff, k1⟩⟩
theorem ft_w {a : Expr} {f : VEnv → Res Bool} (h : FW K xm X a f) : FT K xm X a f := PW.pt h
/-! ### and, or, not as values; a if t else b -/
def eAnd (f g : VEnv → Res D) : VEnv → Res D := fun ρ => (f ρ).bind fun a => (dTru a).bind fun b => if b = true then g ρ else .ok a
def eOr (f g : VEnv → Res D) : VEnv → Res D := fun ρ => (f ρ).bind fun a => (dTru a).bind fun b => if b = true then .ok a else g ρ
def eNot (f : VEnv → Res D) : VEnv → Res D := fun ρ => (f ρ).bind fun a => (dTru a).bind fun b => .ok (.bl (!b))
theorem fe_one {op : BoolOp} {a : Expr} {pos : Pos} {f : VEnv → Res D} (h : FE K xm X a f) : FE K xm X (.BoolOp op [a] pos) f := pe_one h
theorem fe_and {a b : Expr} {rest : List Expr} {pos : Pos} {f g : VEnv → Res D} (h : FE K xm X a f) (r : FE K xm X (.BoolOp .And (b :: rest) pos) g) (hk : X.K = K := by rfl) : FE K xm X (.BoolOp .And (a :: b :: rest) pos) (eAnd f g) := by
  subst hk
  exact PE.to (pe_andT h r) fun σ H Q ⟨F, ρ, sF, vw, k⟩ => ⟨F, ρ, sF, vw, Po.seq k fun a x F1 H1 g1 d1 k1 => by
    obtain ⟨b, e, k2⟩ := Po.tru k1
    refine ⟨b, tru_of g1.fh d1 e, ?_⟩
    cases b with
    | true => exact iteT ⟨F1, ρ, g1.fh, vw.same g1.ff, by rwa [if_pos rfl] at k2⟩
    | false =>
      rw [if_neg Bool.false_ne_true] at k2
      exact iteF (k2.done g1.fh d1)⟩
theorem fe_or {a b : Expr} {rest : List Expr} {pos : Pos} {f g : VEnv → Res D} (h : FE K xm X a f) (r : FE K xm X (.BoolOp .Or (b :: rest) pos) g) (hk : X.K = K := by rfl) : FE K xm X (.BoolOp .Or (a :: b :: rest) pos) (eOr f g) := by
  subst hk
  exact PE.to (pe_orT h r) fun σ H Q ⟨F, ρ, sF, vw, k⟩ => ⟨F, ρ, sF, vw, Po.seq k fun a x F1 H1 g1 d1 k1 => by
    obtain ⟨b, e, k2⟩ := Po.tru k1
    refine ⟨b, tru_of g1.fh d1 e, ?_⟩
    cases b with
    | true =>
      rw [if_pos rfl] at k2
      exact iteT (k2.done g1.fh d1)
    | false => exact iteF ⟨F1, ρ, g1.fh, vw.same g1.ff, by rwa [if_neg Bool.false_ne_true] at k2⟩⟩
theorem fe_not {a : Expr} {pos : Pos} {f : VEnv → Res D} (h : FE K xm X a f) (hk : X.K = K := by rfl) : FE K xm X (.UnaryOp .Not a pos) (eNot f) := by
  subst hk
  exact PE.to (pe_notT h) fun σ H Q ⟨F, ρ, sF, vw, k⟩ => ⟨F, ρ, sF, vw, Po.seq k fun a x F1 H1 g1 d1 k1 => by
    obtain ⟨b, e, k2⟩ := Po.tru k1
    exact ⟨b, tru_of g1.fh d1 e, k2.done g1.fh (.bl _)⟩⟩
def eIf (c : VEnv → Res Bool) (f g : VEnv → Res D) : VEnv → Res D := fun ρ => (c ρ).bind fun b => if b = true then f ρ else g ρ
theorem fe_if {c a b : Expr} {pos : Pos} {fc : VEnv → Res Bool} {f g : VEnv → Res D} (hc : FT K xm X c fc) (ha : FE K xm X a f) (hb : FE K xm X b g) : FE K xm X (.IfExp c a b pos) (eIf fc f g) :=
  PE.to (pe_ifExp hc ha hb) fun σ H Q ⟨F, ρ, sF, vw, k⟩ => ⟨F, ρ, sF, vw, Po.seq k fun a x F1 H1 g1 d1 k1 => by
    subst d1
    cases x with
    | true => exact iteT ⟨F1, ρ, g1.fh, vw.same g1.ff, by rwa [if_pos rfl] at k1⟩
    | false => exact iteF ⟨F1, ρ, g1.fh, vw.same g1.ff, by rwa [if_neg Bool.false_ne_true] at k1⟩⟩
/-! ### a < b < c -/
def dBl : D → Res Bool
  | .bl b => .ok b
  | _ => .bad
def eChain (g g' : D → D → Res D) (fa fb fc : VEnv → Res D) : VEnv → Res D := fun ρ => (fa ρ).bind fun a => (fb ρ).bind fun b => (g a b).bind fun z => (dBl z).bind fun k => if k = true then (fc ρ).bind fun c => g' b c else .ok (.bl false)
theorem tF.chain {r r' : R2} {g g' : D → D → Res D} {fa fb fc : VEnv → Res D} (h : OpD K r g) (h' : OpD K r' g') {σ : St} {H : Hp} {Q : VK} (k : tF K xm (eChain g g' fa fb fc) σ H Q) : tChain r r' (tF K xm fa) (tF K xm fb) (tF K xm fc) σ H Q := by
  obtain ⟨F, ρ, sF, vw, k⟩ := k
  refine ⟨F, ρ, sF, vw, Po.seq k fun a x F1 H1 g1 d1 k1 => ⟨F1, ρ, g1.fh, vw.same g1.ff, Po.seq k1 fun b y F2 H2 g2 d2 k2 => h xm σ F2 H2 x y a b _ g2.fh (d1.same g2.ff) d2 (Po.seq k2 fun z v F3 H3 g3 d3 k3 => ?_)⟩⟩
  unfold dBl at k3
  cases z with
  | bl c =>
    refine ⟨c, d3.blE, ?_⟩
    cases c with
    | true =>
      refine iteT ⟨F3, ρ, g3.fh, vw.same ((g1.ff.trans g2.ff).trans g3.ff), ?_⟩
      have k4 : Po (RD K) K xm σ F3 H3 ((fc ρ).bind fun c => g' b c) Q := k3
      exact Po.seq k4 fun c w F4 H4 g4 d4 k5 => h' xm σ F4 H4 y w b c Q g4.fh ((d2.same g3.ff).same g4.ff) d4 k5
    | false => exact iteF (Po.done (R := RD K) (a := D.bl false) k3 g3.fh (.bl _))
  | _ => exact k3.elim
theorem fe_chain {a b c : Expr} {op op' : CmpOp} {pos : Pos} {r r' : R2} {g g' : D → D → Res D} {fa fb fc : VEnv → Res D} (ho : OpR X (compareOp op) r) (h : OpD K r g) (ho' : OpR X (compareOp op') r') (h' : OpD K r' g') (ha : FE K xm X a fa) (hb : FE K xm X b fb) (hc : FE K xm X c fc)
    (hm : lastMarks [op, op'] [b, c] = false := by with_unfolding_all rfl) : FE K xm X (.Compare a [op, op'] [b, c] pos) (eChain g g' fa fb fc) := PE.to (pe_chain ho ho' ha hb hc hm) fun _ _ _ k => k.chain h h'
theorem ft_chain {a b c : Expr} {op op' : CmpOp} {pos : Pos} {r r' : R2} {g g' : D → D → Res D} {fa fb fc : VEnv → Res D} (ho : OpR X (compareOp op) r) (h : OpD K r g) (ho' : OpR X (compareOp op') r') (h' : OpD K r' g') (hg : ∀ x y d, g' x y = .ok d → ∃ b, d = .bl b)
    (ha : FE K xm X a fa) (hb : FE K xm X b fb) (hc : FE K xm X c fc) (hm : lastMarks [op, op'] [b, c] = false := by with_unfolding_all rfl) : FT K xm X (.Compare a [op, op'] [b, c] pos) (bT (eChain g g' fa fb fc)) :=
  PT.to (pt_chain ho ho' ha hb hc hm) fun σ H Q ⟨F, ρ, sF, vw, k⟩ => by
    refine tF.chain h h' ⟨F, ρ, sF, vw, ?_⟩
    unfold bT at k
    have nb : ∀ d, eChain g g' fa fb fc ρ = .ok d → ∃ b, d = .bl b := fun d e => by
      unfold eChain at e
      cases e1 : fa ρ with
      | ok a =>
        rw [e1, Res.bind_ok] at e
        cases e2 : fb ρ with
        | ok b =>
          rw [e2, Res.bind_ok] at e
          cases e3 : g a b with
          | ok z =>
            rw [e3, Res.bind_ok] at e
            cases e4 : dBl z with
            | ok k =>
              rw [e4, Res.bind_ok] at e
              cases k with
              | true =>
                rw [if_pos rfl] at e
                cases e5 : fc ρ with
                | ok c => rw [e5, Res.bind_ok] at e; exact hg _ _ _ e
                | exc x => rw [e5] at e; cases e
                | bad => rw [e5] at e; cases e
              | false =>
                rw [if_neg Bool.false_ne_true] at e
                cases e
                exact ⟨_, rfl⟩
            | exc x => rw [e4] at e; cases e
            | bad => rw [e4] at e; cases e
          | exc x => rw [e3] at e; cases e
          | bad => rw [e3] at e; cases e
        | exc x => rw [e2] at e; cases e
        | bad => rw [e2] at e; cases e
      | exc x => rw [e1] at e; cases e
      | bad => rw [e1] at e; cases e
    exact po_bl nb k
/-! ### calls of built-ins -/
def eCall (g : List D → Res D) (fa : VEnv → Res (List D)) : VEnv → Res D := fun ρ => (fa ρ).bind g
theorem fe_callB {x : Str} {id : String} {r : List V → Hp → VK → Prop} {g : List D → Res D} {e : Expr} {es : List Expr} {p pos : Pos} {fa : VEnv → Res (List D)} (hc : CallR X (.builtin id) r) (h : CallD K r g) (hm : X.mg x = none) (ha : FA K xm X (e :: es) fa) (hg : Gl X x := by rfl) (hv : bootBuiltins x = some (.builtin id) := by decide +kernel)
    (hn : x ≠ "__name__" := by decide) (hdb : (x == ("__debug__" : Str)) = false := by decide) (he : starEach (e :: es) X.env = (false, eval e X.env) :: starEach es X.env := by rfl) (hpl : (backTo pos (starEach es X.env)).any (·.1) = false := by rfl) :
    FE K xm X (.Call (.Name x p) (e :: es) [] pos) (eCall g fa) := PE.to (pe_callB hc hg hm hv ha hn hdb he hpl) fun σ H Q ⟨F, ρ, sF, vw, k⟩ => ⟨F, ρ, sF, vw, Po.seq k fun ds vs F1 H1 g1 d1 k1 => h xm σ F1 H1 vs ds Q g1.fh d1 k1⟩
theorem fe_callT {x : Str} {id : String} {r : List V → Hp → VK → Prop} {g : List D → Res D} {e : Expr} {es : List Expr} {p pos : Pos} {fa : VEnv → Res (List D)} (hc : CallR X (.type id) r) (h : CallD K r g) (hm : X.mg x = none) (ha : FA K xm X (e :: es) fa) (hg : Gl X x := by rfl) (hv : bootBuiltins x = some (.type id) := by decide +kernel)
    (hn : x ≠ "__name__" := by decide) (hdb : (x == ("__debug__" : Str)) = false := by decide) (he : starEach (e :: es) X.env = (false, eval e X.env) :: starEach es X.env := by rfl) (hpl : (backTo pos (starEach es X.env)).any (·.1) = false := by rfl) :
    FE K xm X (.Call (.Name x p) (e :: es) [] pos) (eCall g fa) := PE.to (pe_callTy hc hg hm hv ha hn hdb he hpl) fun σ H Q ⟨F, ρ, sF, vw, k⟩ => ⟨F, ρ, sF, vw, Po.seq k fun ds vs F1 H1 g1 d1 k1 => h xm σ F1 H1 vs ds Q g1.fh d1 k1⟩
/-! ### promises of defs that compute a function -/
/-- no exception leaves -/
def sp0 (K : PySem.W.Frag) (f : List D → Res D) : Sp := fun vs H Q _ => ∃ ds G, Same G H ∧ DtAll K G vs ds ∧ ∃ d, f ds = .ok d ∧ ∀ v G' H', Gr G H G' H' → Dt K G' v d → Q v H'
/-- an exception may leave -/
def spX (K : PySem.W.Frag) (mg : Str → Option Value) (f : List D → Res D) : Sp := fun vs H Q E => ∃ ds G, Same G H ∧ DtAll K G vs ds ∧ match f ds with
  | .ok d => ∀ v G' H', Gr G H G' H' → Dt K G' v d → Q v H'
  | .exc x => ∀ C dd G' H', Gr G H G' H' → ExIs K mg x G' C dd → E C dd H'
  | .bad => False
theorem fe_call {x : Str} {k k' : Nat} {ps : List Str} {f : List D → Res D} {e : Expr} {es : List Expr} {p pos : Pos} {fa : VEnv → Res (List D)} (O : Dear.OkF X.prog X.w X.K X.mg X.base CX0 k x ps (sp0 K f)) (hr : Room k' X.A) (ha : FA K none X (e :: es) fa) (hk : k ≤ k' := by decide) (hg : Gl X x := by rfl)
    (hdb : (x == ("__debug__" : Str)) = false := by decide) (he : starEach (e :: es) X.env = (false, eval e X.env) :: starEach es X.env := by rfl) (hpl : (backTo pos (starEach es X.env)).any (·.1) = false := by rfl) : FE K none X (.Call (.Name x p) (e :: es) [] pos) (eCall f fa) :=
  PE.to (Dear.pe_c O hr ha hk hg hdb he hpl) fun σ H Q ⟨F, ρ, sF, vw, k⟩ => ⟨F, ρ, sF, vw, Po.seq k fun ds vs F1 H1 g1 d1 k1 => by
    refine ⟨ds, F1, g1.fh, by rw [List.append_nil]; exact d1, ?_⟩
    cases e : f ds with
    | ok d => rw [e] at k1; exact ⟨d, rfl, k1⟩
    | exc x => rw [e] at k1; exact k1.elim
    | bad => rw [e] at k1; exact k1.elim⟩
/-- f's exceptions are none that the caller waits for: they are as no answer -/
def nx (f : List D → Res D) : List D → Res D := fun ds => match f ds with
  | .ok d => .ok d
  | _ => .bad
theorem fe_call1 {x : Str} {k k' : Nat} {ps : List Str} {f : List D → Res D} {e : Expr} {es : List Expr} {p pos : Pos} {fa : VEnv → Res (List D)} (O : Dear.OkF X.prog X.w X.K X.mg X.base CX0 k x ps (sp0 K f)) (hr : Room k' X.A) (ha : FA K xm X (e :: es) fa) (hk : k ≤ k' := by decide) (hg : Gl X x := by rfl)
    (hdb : (x == ("__debug__" : Str)) = false := by decide) (he : starEach (e :: es) X.env = (false, eval e X.env) :: starEach es X.env := by rfl) (hpl : (backTo pos (starEach es X.env)).any (·.1) = false := by rfl) : FE K xm X (.Call (.Name x p) (e :: es) [] pos) (eCall (nx f) fa) :=
  PE.to (Dear.pe_c O hr ha hk hg hdb he hpl) fun σ H Q ⟨F, ρ, sF, vw, k⟩ => ⟨F, ρ, sF, vw, Po.seq k fun ds vs F1 H1 g1 d1 k1 => by
    refine ⟨ds, F1, g1.fh, by rw [List.append_nil]; exact d1, ?_⟩
    unfold nx at k1
    cases e : f ds with
    | ok d => rw [e] at k1; exact ⟨d, rfl, k1⟩
    | exc x => rw [e] at k1; exact k1.elim
    | bad => rw [e] at k1; exact k1.elim⟩
theorem fe_callX {mg : Str → Option Value} {W : WX} {x : Str} {k k' : Nat} {ps : List Str} {f : List D → Res D} {e : Expr} {es : List Expr} {p pos : Pos} {fa : VEnv → Res (List D)} (O : Dear.OkF X.prog X.w X.K X.mg X.base (L2.CX X.prog X.w) k x ps (spX K mg f)) (hr : Room k' X.A) (tk : Takes X W) (ha : FA K (some ⟨mg, W⟩) X (e :: es) fa)
    (hk : k ≤ k' := by decide) (hg : Gl X x := by rfl) (hdb : (x == ("__debug__" : Str)) = false := by decide) (he : starEach (e :: es) X.env = (false, eval e X.env) :: starEach es X.env := by rfl) (hpl : (backTo pos (starEach es X.env)).any (·.1) = false := by rfl) : FE K (some ⟨mg, W⟩) X (.Call (.Name x p) (e :: es) [] pos) (eCall f fa) :=
  PE.to (Dear.pe_cx O hr tk ha hk hg hdb he hpl) fun σ H Q ⟨F, ρ, sF, vw, k⟩ => ⟨F, ρ, sF, vw, Po.seq k fun ds vs F1 H1 g1 d1 k1 => by
    refine ⟨ds, F1, g1.fh, d1, ?_⟩
    cases e : f ds with
    | ok d => rw [e] at k1; exact k1
    | exc x => rw [e] at k1; exact k1
    | bad => rw [e] at k1; exact k1.elim⟩
end
end Du

namespace Du
open PySem PySem.Spec PyProof.Rows L2
section
variable {K : PySem.W.Frag} {xm : XMo} {X : Cx}
/-! ### what is walked, as data -/
structure Yl (K : PySem.W.Frag) (F : Hp) (J : It) (ds : List D) : Prop where
  go : ∀ i H, i < ds.length → Same F H → J.go i H
  yld : ∀ i d F1 H x H', ds[i]? = some d → Same F F1 → Same F1 H → J.yld i H x H' → ∃ F2, Gr F1 H F2 H' ∧ Dt K F2 x d
  stop : ∀ H, Same F H → J.stop ds.length H
theorem Yl.same {F G : Hp} {J : It} {ds : List D} (y : Yl K F J ds) (s : Same F G) : Yl K G J ds :=
  ⟨fun i H h q => y.go i H h (s.trans q), fun i d F1 H x H' e q => y.yld i d F1 H x H' e (s.trans q), fun H q => y.stop H (s.trans q)⟩
def iF (K : PySem.W.Frag) (xm : XMo) (f : VEnv → Res (List D)) : TI := fun σ H R => ∃ F ρ, Same F H ∧ Vw K F σ ρ ∧ Po (fun F' J ds => Yl K F' J ds) K xm σ F H (f ρ) R
abbrev FI (K : PySem.W.Frag) (xm : XMo) (X : Cx) (tg e : Expr) (f : VEnv → Res (List D)) : Prop := PI X tg e (iF K xm f)
theorem PI.to {tg e : Expr} {t t' : TI} (h : PI X tg e t) (m : ∀ σ H R, t' σ H R → t σ H R) : PI X tg e t' := ⟨fun pins s σ H R I q => h.run pins s σ H R I (m _ _ _ q)⟩
theorem PI.or {tg e : Expr} {t t' : TI} (h : PI X tg e t) (h' : PI X tg e t') : PI X tg e fun σ H R => t σ H R ∨ t' σ H R := ⟨fun pins s σ H R I q => q.elim (h.run pins s σ H R I) (h'.run pins s σ H R I)⟩
theorem yl_list {F : Hp} {a : Addr} {xs : List V} {ds : List D} (h : ∀ H, Same F H → SqL K H a xs) (d : DtAll K F xs ds) : Yl K F (Itl K a) ds := by
  have l := d.length
  refine ⟨fun i H hi s => ⟨xs, xs[i], h H s, by rw [List.getElem?_eq_getElem (by omega)]⟩, fun i e F1 H x H' he s s1 y => ?_, fun H s => ⟨xs, h H s, by omega⟩⟩
  obtain ⟨rfl, y⟩ := y
  obtain ⟨v, e1, e2⟩ := d.at he
  have := y xs (h H' (s.trans s1))
  rw [e1] at this
  cases this
  exact ⟨F1, .refl s1, e2.same s⟩
theorem yl_tup {F : Hp} {a : Addr} {xs : List V} {ds : List D} (h : ∀ H, Same F H → SqT K H a xs) (d : DtAll K F xs ds) : Yl K F (Itt K a) ds := by
  have l := d.length
  refine ⟨fun i H hi s => ⟨xs, xs[i], h H s, by rw [List.getElem?_eq_getElem (by omega)]⟩, fun i e F1 H x H' he s s1 y => ?_, fun H s => ⟨xs, h H s, by omega⟩⟩
  obtain ⟨rfl, y⟩ := y
  obtain ⟨v, e1, e2⟩ := d.at he
  have := y xs (h H' (s.trans s1))
  rw [e1] at this
  cases this
  exact ⟨F1, .refl s1, e2.same s⟩
/-- the signs of a text -/
def signs (z : Str) : List D := z.cps.toList.map fun c => .str ⟨#[c]⟩
theorem yl_str {F : Hp} (z : Str) : Yl K F (Its z) (signs z) := by
  have l : (signs z).length = z.cps.size := by unfold signs; rw [List.length_map, Array.length_toList]
  refine ⟨fun i H hi s => (by rw [l] at hi; exact hi), fun i e F1 H x H' he s s1 y => ?_, fun H s => (by rw [l]; exact Nat.le_refl _)⟩
  obtain ⟨rfl, c, hc, rfl⟩ := y
  unfold signs at he
  rw [List.getElem?_map, Array.getElem?_toList, hc] at he
  cases he
  exact ⟨F1, .refl s1, .str _⟩
/-- for x in e: a list, a tuple, the script, a text -/
def dItems : D → Res (List D)
  | .lst ds => .ok ds
  | .tup ds => .ok ds
  | .scr ns => .ok (ns.map D.int)
  | .str z => .ok (signs z)
  | _ => .bad
def iAny (f : VEnv → Res D) : VEnv → Res (List D) := fun ρ => (f ρ).bind dItems
theorem fi_any {tg e : Expr} {f : VEnv → Res D} (h : FE K xm X e f) (hk : X.K = K := by rfl) : FI K xm X tg e (iAny f) := by
  subst hk
  refine PI.to (PI.or (PI.or (pi_list h) (pi_tup h)) (pi_str h)) fun σ H R ⟨F, ρ, sF, vw, k⟩ => ?_
  unfold iAny at k
  cases e : f ρ with
  | exc x =>
    rw [e] at k
    exact .inl (.inl ⟨F, ρ, sF, vw, by rw [e]; exact k⟩)
  | bad => rw [e] at k; exact k.elim
  | ok d =>
    rw [e] at k
    cases d with
    | lst ds =>
      refine .inl (.inl ⟨F, ρ, sF, vw, ?_⟩)
      rw [e]
      intro x F1 H1 g1 d1
      obtain ⟨p, xs, rfl, h1, h2⟩ := d1.lstE
      exact ⟨p, rfl, ⟨xs, SqL.of (g1.fh _ _ h1)⟩, k _ F1 H1 g1 (yl_list (fun H s => SqL.of (s _ _ h1)) h2)⟩
    | scr ns =>
      refine .inl (.inl ⟨F, ρ, sF, vw, ?_⟩)
      rw [e]
      intro x F1 H1 g1 d1
      cases d1 with
      | scr h1 => exact ⟨_, rfl, ⟨_, (Below.of g1.fh).sql h1⟩, k _ F1 H1 g1 (yl_list (fun H s => (Below.of s).sql h1) (Dt.ints ns))⟩
    | tup ds =>
      refine .inl (.inr ⟨F, ρ, sF, vw, ?_⟩)
      rw [e]
      intro x F1 H1 g1 d1
      obtain ⟨p, xs, rfl, h1, h2⟩ := d1.tupE
      exact ⟨p, rfl, ⟨xs, (Below.of g1.fh).sqt h1⟩, k _ F1 H1 g1 (yl_tup (fun H s => (Below.of s).sqt h1) h2)⟩
    | str z =>
      refine .inr ⟨F, ρ, sF, vw, ?_⟩
      rw [e]
      intro x F1 H1 g1 d1
      exact ⟨z, d1.strE, k _ F1 H1 g1 (yl_str z)⟩
    | _ => exact k.elim
/-! ### range -/
def rangeD (lo : Int) (n : Nat) : List D := (List.range n).map fun i => .int (lo + (i : Nat))
theorem yl_rng {F : Hp} (lo : Int) (n : Nat) : Yl K F (Itr lo n) (rangeD lo n) := by
  have l : (rangeD lo n).length = n := by unfold rangeD; rw [List.length_map, List.length_range]
  refine ⟨fun i H hi s => (by rw [l] at hi; exact hi), fun i e F1 H x H' he s s1 y => ?_, fun H s => (by rw [l]; exact Nat.le_refl _)⟩
  obtain ⟨rfl, rfl⟩ := y
  unfold rangeD at he
  rw [List.getElem?_map] at he
  obtain ⟨j, h1, rfl⟩ := Option.map_eq_some_iff.mp he
  have := List.getElem?_eq_some_iff.mp h1
  obtain ⟨h2, h3⟩ := this
  rw [List.getElem_range] at h3
  subst h3
  exact ⟨F1, .refl s1, .int _⟩
def inR (i : Int) : Bool := decide (-(2 ^ 62) ≤ i ∧ i < 2 ^ 62)
def dRange : List D → Res (List D)
  | [.int j] => if inR j = true then .ok (rangeD 0 j.toNat) else .bad
  | [.int i, .int j] => if (inR i && inR j) = true then .ok (rangeD i (j - i).toNat) else .bad
  | [.int i, .int j, .int (-1)] => if (inR i && inR j) = true then .ok ((List.range (i - j).toNat).map fun k => .int (i - (k : Nat))) else .bad
  | [.int i, .int j, .int 2] => if (inR i && inR j) = true then .ok ((List.range ((j - i + 1) / 2).toNat).map fun k => .int (i + 2 * (k : Nat))) else .bad
  | _ => .bad
def iRange (f : VEnv → Res (List D)) : VEnv → Res (List D) := fun ρ => (f ρ).bind dRange
theorem DtAll.one {F : Hp} {vs : List V} {d : D} (h : DtAll K F vs [d]) : ∃ v, vs = [v] ∧ Dt K F v d := by
  cases h with
  | cons a b => cases b; exact ⟨_, rfl, a⟩
theorem DtAll.two {F : Hp} {vs : List V} {d e : D} (h : DtAll K F vs [d, e]) : ∃ v w, vs = [v, w] ∧ Dt K F v d ∧ Dt K F w e := by
  cases h with
  | cons a b =>
    obtain ⟨w, rfl, c⟩ := b.one
    exact ⟨_, w, rfl, a, c⟩
theorem DtAll.three {F : Hp} {vs : List V} {d e f : D} (h : DtAll K F vs [d, e, f]) : ∃ v w u, vs = [v, w, u] ∧ Dt K F v d ∧ Dt K F w e ∧ Dt K F u f := by
  cases h with
  | cons a b =>
    obtain ⟨w, u, rfl, c⟩ := b.two
    exact ⟨_, w, u, rfl, a, c⟩
theorem fi_range1 {tg a : Expr} {p pos : Pos} {f : VEnv → Res (List D)} (hm : X.mg "range" = none) (h : FA K xm X [a] f) (hg : Gl X "range" := by rfl) (hs : starEach [a] X.env = [(false, eval a X.env)] := by rfl) (h1 : ∀ ρ ds, f ρ = .ok ds → ds.length = 1) :
    FI K xm X tg (.Call (.Name "range" p) [a] [] pos) (iRange f) := PI.to (pi_range1 hg hm h hs) fun σ H R ⟨F, ρ, sF, vw, k⟩ => by
  unfold iRange at k
  cases e : f ρ with
  | exc x => rw [e] at k; exact ⟨F, ρ, sF, vw, by rw [e]; exact k⟩
  | bad => rw [e] at k; exact k.elim
  | ok ds =>
    rw [e] at k
    refine ⟨F, ρ, sF, vw, ?_⟩
    rw [e]
    intro vs F1 H1 g1 d1
    match ds, h1 ρ ds e with
    | [d], _ =>
      cases d with
      | int j =>
        obtain ⟨v, rfl, q⟩ := d1.one
        have k' : Po (fun F' J ds => Yl K F' J ds) K xm σ F H (if inR j = true then Res.ok (rangeD 0 j.toNat) else .bad) R := k
        obtain ⟨f, k'⟩ := Po.ite k'
        have f := of_decide_eq_true f
        exact ⟨j, by rw [q.intE], f.1, f.2, k' _ F1 H1 g1 (yl_rng 0 _)⟩
      | _ => exact k.elim
theorem fi_range2 {tg a b : Expr} {p pos : Pos} {f : VEnv → Res (List D)} (hm : X.mg "range" = none) (h : FA K xm X [a, b] f) (h1 : ∀ ρ ds, f ρ = .ok ds → ds.length = 2) (hg : Gl X "range" := by rfl) (hs : starEach [a, b] X.env = [(false, eval a X.env), (false, eval b X.env)] := by rfl) (hs2 : starEach [b] X.env = [(false, eval b X.env)] := by rfl) :
    FI K xm X tg (.Call (.Name "range" p) [a, b] [] pos) (iRange f) := PI.to (pi_range2 hg hm h hs hs2) fun σ H R ⟨F, ρ, sF, vw, k⟩ => by
  unfold iRange at k
  cases e : f ρ with
  | exc x => rw [e] at k; exact ⟨F, ρ, sF, vw, by rw [e]; exact k⟩
  | bad => rw [e] at k; exact k.elim
  | ok ds =>
    rw [e] at k
    refine ⟨F, ρ, sF, vw, ?_⟩
    rw [e]
    intro vs F1 H1 g1 d1
    match ds, h1 ρ ds e with
    | [d, c], _ =>
      cases d with
      | int i =>
        cases c with
        | int j =>
          obtain ⟨v, w, rfl, q, r⟩ := d1.two
          have k' : Po (fun F' J ds => Yl K F' J ds) K xm σ F H (if (inR i && inR j) = true then Res.ok (rangeD i (j - i).toNat) else .bad) R := k
          obtain ⟨f, k'⟩ := Po.ite k'
          rw [Bool.and_eq_true] at f
          have f1 := of_decide_eq_true f.1
          have f2 := of_decide_eq_true f.2
          exact ⟨i, j, by rw [q.intE, r.intE], ⟨f1.1, f1.2, f2.1, f2.2⟩, k' _ F1 H1 g1 (yl_rng i _)⟩
        | _ => exact k.elim
      | _ => exact k.elim
theorem len1 {f : VEnv → Res D} : ∀ ρ ds, aCons f aNil ρ = .ok ds → ds.length = 1 := fun ρ ds e => by
  unfold aCons aNil at e
  cases h : f ρ with
  | ok a => rw [h] at e; cases e; rfl
  | exc x => rw [h] at e; cases e
  | bad => rw [h] at e; cases e
theorem len2 {f g : VEnv → Res D} : ∀ ρ ds, aCons f (aCons g aNil) ρ = .ok ds → ds.length = 2 := fun ρ ds e => by
  unfold aCons aNil at e
  cases h : f ρ with
  | ok a =>
    cases h2 : g ρ with
    | ok b => rw [h, Res.bind_ok, h2] at e; cases e; rfl
    | exc x => rw [h, Res.bind_ok, h2] at e; cases e
    | bad => rw [h, Res.bind_ok, h2] at e; cases e
  | exc x => rw [h] at e; cases e
  | bad => rw [h] at e; cases e
/-! ### enumerate, zip: pairs in new tuples -/
def numbered : Nat → List D → List D
  | _, [] => []
  | n, d :: ds => .tup [.int n, d] :: numbered (n + 1) ds
theorem numbered_len : ∀ (n : Nat) (ds : List D), (numbered n ds).length = ds.length
  | _, [] => rfl
  | n, _ :: ds => by rw [numbered, List.length_cons, numbered_len (n + 1) ds, List.length_cons]
theorem numbered_get : ∀ {n i : Nat} {ds : List D} {d : D}, (numbered n ds)[i]? = some d → ∃ e, ds[i]? = some e ∧ d = .tup [.int ((n + i : Nat) : Int), e]
  | n, i, [], d, h => by simp [numbered] at h
  | n, 0, x :: ds, d, h => by
    rw [numbered] at h
    simp at h
    exact ⟨x, rfl, h.symm⟩
  | n, i + 1, x :: ds, d, h => by
    rw [numbered] at h
    obtain ⟨e, h1, h2⟩ := numbered_get (n := n + 1) (i := i) (ds := ds) (by simpa using h)
    exact ⟨e, by simpa using h1, by rw [h2]; congr 4; omega⟩
def dEnum : List D → Res (List D)
  | [.lst ds] => .ok (numbered 0 ds)
  | [.scr ns] => .ok (numbered 0 (ns.map D.int))
  | _ => .bad
def iEnumD (f : VEnv → Res (List D)) : VEnv → Res (List D) := fun ρ => (f ρ).bind dEnum
theorem yl_enum {F : Hp} {a : Addr} {xs : List V} {ds : List D} (h : ∀ H, Same F H → SqL K H a xs) (d : DtAll K F xs ds) : Yl K F (Ite K a) (numbered 0 ds) := by
  have l := d.length
  refine ⟨fun i H hi s => ⟨xs, xs[i]'(by rw [numbered_len] at hi; omega), h H s, by rw [List.getElem?_eq_getElem]⟩, fun i e F1 H x H' he s s1 y => ?_, fun H s => ⟨xs, h H s, by rw [numbered_len]; omega⟩⟩
  obtain ⟨T, x, rfl, hT, rfl, y⟩ := y
  obtain ⟨e, hb, rfl⟩ := numbered_get he
  obtain ⟨v, e1, e2⟩ := d.at hb
  have := y xs (h H (s.trans s1))
  rw [e1] at this
  cases this
  have w := sm_upd (o := .tup [.int (i : Nat), x]) (s1.free hT)
  refine ⟨_, .new s1 hT, .tup upd_same (.cons ?_ (.cons ((e2.same s).same w) .nil))⟩
  rw [Nat.zero_add]
  exact .int _
theorem fi_enum {e : Expr} {p pos tpos : Pos} {elts : List Expr} {kk : Nat} {f : VEnv → Res (List D)} (hm : X.mg "enumerate" = none) (h : FA K xm X [e] f) (h1 : ∀ ρ ds, f ρ = .ok ds → ds.length = 1) (hk : X.K = K := by rfl) (hg : Gl X "enumerate" := by rfl) (hs : starEach [e] X.env = [(false, eval e X.env)] := by rfl) :
    FI K xm X (.Tuple elts kk tpos) (.Call (.Name "enumerate" p) [e] [] pos) (iEnumD f) := by
  subst hk
  refine PI.to (pi_enum hg hm h hs) fun σ H R ⟨F, ρ, sF, vw, k⟩ => ?_
  unfold iEnumD at k
  cases e : f ρ with
  | exc x => rw [e] at k; exact ⟨F, ρ, sF, vw, by rw [e]; exact k⟩
  | bad => rw [e] at k; exact k.elim
  | ok ds =>
    rw [e] at k
    refine ⟨F, ρ, sF, vw, ?_⟩
    rw [e]
    intro vs F1 H1 g1 d1
    match ds, h1 ρ ds e with
    | [d], _ =>
      obtain ⟨v, rfl, q⟩ := d1.one
      cases d with
      | lst ds =>
        obtain ⟨p, xs, rfl, h1, h2⟩ := q.lstE
        exact ⟨p, xs, rfl, SqL.of (g1.fh _ _ h1), k _ F1 H1 g1 (yl_enum (fun H s => SqL.of (s _ _ h1)) h2)⟩
      | scr ns =>
        cases q with
        | scr h1 => exact ⟨_, _, rfl, (Below.of g1.fh).sql h1, k _ F1 H1 g1 (yl_enum (fun H s => (Below.of s).sql h1) (Dt.ints ns))⟩
      | _ => exact k.elim
def pairs : List D → List D → List D
  | a :: as, b :: bs => .tup [a, b] :: pairs as bs
  | _, _ => []
theorem pairs_len : ∀ (as bs : List D), (pairs as bs).length = min as.length bs.length
  | [], _ => by simp [pairs]
  | _ :: _, [] => by simp [pairs]
  | _ :: as, _ :: bs => by rw [pairs, List.length_cons, pairs_len as bs, List.length_cons, List.length_cons]; omega
theorem pairs_get : ∀ {i : Nat} {as bs : List D} {d : D}, (pairs as bs)[i]? = some d → ∃ a b, as[i]? = some a ∧ bs[i]? = some b ∧ d = .tup [a, b]
  | i, [], _, d, h => by simp [pairs] at h
  | i, _ :: _, [], d, h => by simp [pairs] at h
  | 0, a :: as, b :: bs, d, h => by
    rw [pairs] at h
    simp at h
    exact ⟨a, b, rfl, rfl, h.symm⟩
  | i + 1, a :: as, b :: bs, d, h => by
    rw [pairs] at h
    obtain ⟨x, y, h1, h2, h3⟩ := pairs_get (i := i) (as := as) (bs := bs) (by simpa using h)
    exact ⟨x, y, by simpa using h1, by simpa using h2, h3⟩
def dZip : List D → Res (List D)
  | [.lst as, .lst bs] => .ok (pairs as bs)
  | [.tup as, .tup bs] => .ok (pairs as bs)
  | _ => .bad
def iZipD (f : VEnv → Res (List D)) : VEnv → Res (List D) := fun ρ => (f ρ).bind dZip
theorem yl_zip {F : Hp} {a b : Addr} {xs ys : List V} {ds es : List D} (h : ∀ H, Same F H → SqL K H a xs) (h' : ∀ H, Same F H → SqL K H b ys) (d : DtAll K F xs ds) (e : DtAll K F ys es) : Yl K F (Itz K a b) (pairs ds es) := by
  have l := d.length
  have l' := e.length
  refine ⟨fun i H hi s => ⟨xs, ys, xs[i]'(by rw [pairs_len] at hi; omega), ys[i]'(by rw [pairs_len] at hi; omega), h H s, h' H s, by rw [List.getElem?_eq_getElem], by rw [List.getElem?_eq_getElem]⟩, fun i f F1 H x H' he s s1 y => ?_, fun H s => ⟨xs, ys, h H s, h' H s, by rw [pairs_len]; omega⟩⟩
  obtain ⟨T, x, z, rfl, hT, rfl, y, y'⟩ := y
  obtain ⟨p, q, hb, hb', rfl⟩ := pairs_get he
  obtain ⟨v, e1, e2⟩ := d.at hb
  obtain ⟨v', e1', e2'⟩ := e.at hb'
  have z1 := y xs (h H (s.trans s1))
  have z2 := y' ys (h' H (s.trans s1))
  rw [e1] at z1
  rw [e1'] at z2
  cases z1
  cases z2
  have w := sm_upd (o := .tup [x, z]) (s1.free hT)
  exact ⟨_, .new s1 hT, .tup upd_same (.cons ((e2.same s).same w) (.cons ((e2'.same s).same w) .nil))⟩
theorem yl_zipT {F : Hp} {a b : Addr} {xs ys : List V} {ds es : List D} (h : ∀ H, Same F H → SqT K H a xs) (h' : ∀ H, Same F H → SqT K H b ys) (d : DtAll K F xs ds) (e : DtAll K F ys es) : Yl K F (RZ.ItzT K a b) (pairs ds es) := by
  have l := d.length
  have l' := e.length
  refine ⟨fun i H hi s => ⟨xs, ys, xs[i]'(by rw [pairs_len] at hi; omega), ys[i]'(by rw [pairs_len] at hi; omega), h H s, h' H s, by rw [List.getElem?_eq_getElem], by rw [List.getElem?_eq_getElem]⟩, fun i f F1 H x H' he s s1 y => ?_, fun H s => ⟨xs, ys, h H s, h' H s, by rw [pairs_len]; omega⟩⟩
  obtain ⟨T, x, z, rfl, hT, rfl, y, y'⟩ := y
  obtain ⟨p, q, hb, hb', rfl⟩ := pairs_get he
  obtain ⟨v, e1, e2⟩ := d.at hb
  obtain ⟨v', e1', e2'⟩ := e.at hb'
  have z1 := y xs (h H (s.trans s1))
  have z2 := y' ys (h' H (s.trans s1))
  rw [e1] at z1
  rw [e1'] at z2
  cases z1
  cases z2
  have w := sm_upd (o := .tup [x, z]) (s1.free hT)
  exact ⟨_, .new s1 hT, .tup upd_same (.cons ((e2.same s).same w) (.cons ((e2'.same s).same w) .nil))⟩
theorem fi_zip {a b : Expr} {p pos tpos : Pos} {elts : List Expr} {kk : Nat} {f : VEnv → Res (List D)} (hm : X.mg "zip" = none) (h : FA K xm X [a, b] f) (h1 : ∀ ρ ds, f ρ = .ok ds → ds.length = 2) (hk : X.K = K := by rfl) (hg : Gl X "zip" := by rfl)
    (hs : starEach [a, b] X.env = (false, eval a X.env) :: starEach [b] X.env := by rfl) (hpl : (backTo pos (starEach [b] X.env)).any (·.1) = false := by rfl) : FI K xm X (.Tuple elts kk tpos) (.Call (.Name "zip" p) [a, b] [] pos) (iZipD f) := by
  subst hk
  refine PI.to (RZ.pi_zipA hg hm h hs hpl) fun σ H R ⟨F, ρ, sF, vw, k⟩ => ?_
  unfold iZipD at k
  cases e : f ρ with
  | exc x => rw [e] at k; exact ⟨F, ρ, sF, vw, by rw [e]; exact k⟩
  | bad => rw [e] at k; exact k.elim
  | ok ds =>
    rw [e] at k
    refine ⟨F, ρ, sF, vw, ?_⟩
    rw [e]
    intro vs F1 H1 g1 d1
    match ds, h1 ρ ds e with
    | [d, c], _ =>
      obtain ⟨v, w, rfl, q, r⟩ := d1.two
      cases d with
      | lst ds =>
        cases c with
        | lst es =>
          obtain ⟨p, xs, rfl, h1, h2⟩ := q.lstE
          obtain ⟨p', ys, rfl, h3, h4⟩ := r.lstE
          exact ⟨p, p', xs, ys, rfl, .inl ⟨SqL.of (g1.fh _ _ h1), SqL.of (g1.fh _ _ h3), k _ F1 H1 g1 (yl_zip (fun H s => SqL.of (s _ _ h1)) (fun H s => SqL.of (s _ _ h3)) h2 h4)⟩⟩
        | _ => exact k.elim
      | tup ds =>
        cases c with
        | tup es =>
          obtain ⟨p, xs, rfl, h1, h2⟩ := q.tupE
          obtain ⟨p', ys, rfl, h3, h4⟩ := r.tupE
          exact ⟨p, p', xs, ys, rfl, .inr ⟨(Below.of g1.fh).sqt h1, (Below.of g1.fh).sqt h3, k _ F1 H1 g1 (yl_zipT (fun H s => (Below.of s).sqt h1) (fun H s => (Below.of s).sqt h3) h2 h4)⟩⟩
        | _ => exact k.elim
      | _ => exact k.elim
end
end Du

namespace Du
open PySem PySem.Spec PyProof.Rows L2
/-! ### targets: which slots get what -/
def setAll (σ : St) : List (Nat × V) → St
  | [] => σ
  | p :: ps => setAll (σ.set p.1 (some p.2)) ps
def setAllD (ρ : VEnv) : List (Nat × D) → VEnv
  | [] => ρ
  | p :: ps => setAllD (ρ.set p.1 (some p.2)) ps
theorem setAll_app (σ : St) : ∀ a b : List (Nat × V), setAll σ (a ++ b) = setAll (setAll σ a) b
  | [], _ => rfl
  | p :: a, b => setAll_app (σ.set p.1 (some p.2)) a b
abbrev As (K : PySem.W.Frag) (F : Hp) : List (Nat × V) → List (Nat × D) → Prop := Paired fun p q => p.1 = q.1 ∧ Dt K F p.2 q.2
abbrev Tgt := D → Res (List (Nat × D))
def tgN (i : Nat) : Tgt := fun d => .ok [(i, d)]
def tgL : List Tgt → List D → Res (List (Nat × D))
  | [], [] => .ok []
  | t :: ts, d :: ds => (t d).bind fun a => (tgL ts ds).bind fun b => .ok (a ++ b)
  | _, _ => .bad
def tgT (ts : List Tgt) : Tgt := fun d => match d with
  | .tup ds => tgL ts ds
  | _ => .bad
def gF (K : PySem.W.Frag) (g : Tgt) : TG := fun v σ H Q => ∃ F d as, Same F H ∧ Dt K F v d ∧ g d = .ok as ∧ ∀ bs, As K F bs as → Q (setAll σ bs) H
def gsF (K : PySem.W.Frag) (g : List Tgt) : TGs := fun vs σ H Q => ∃ F ds as, Same F H ∧ DtAll K F vs ds ∧ tgL g ds = .ok as ∧ ∀ bs, As K F bs as → Q (setAll σ bs) H
abbrev FG (K : PySem.W.Frag) (X : Cx) (tg : Expr) (g : Tgt) : Prop := PG X tg (gF K g)
abbrev FGs (K : PySem.W.Frag) (X : Cx) (tg : List Expr) (g : List Tgt) : Prop := PGs X tg (gsF K g)
theorem tgL_len : ∀ {ts : List Tgt} {ds : List D} {as : List (Nat × D)}, tgL ts ds = .ok as → ds.length = ts.length
  | [], [], _, _ => rfl
  | [], _ :: _, _, h => by cases h
  | _ :: _, [], _, h => by cases h
  | t :: ts, d :: ds, as, h => by
    unfold tgL at h
    cases e : t d with
    | ok a =>
      rw [e, Res.bind_ok] at h
      cases e2 : tgL ts ds with
      | ok b => rw [List.length_cons, List.length_cons, tgL_len e2]
      | exc x => rw [e2] at h; cases h
      | bad => rw [e2] at h; cases h
    | exc x => rw [e] at h; cases h
    | bad => rw [e] at h; cases h
section
variable {K : PySem.W.Frag} {xm : XMo} {X : Cx}
theorem PG.to {e : Expr} {t t' : TG} (h : PG X e t) (m : ∀ v σ H Q, t' v σ H Q → t v σ H Q) : PG X e t' := ⟨fun pins s σ H v u Q I r q => h.run pins s σ H v u Q I r (m _ _ _ _ q)⟩
theorem PGs.to {e : List Expr} {t t' : TGs} (h : PGs X e t) (m : ∀ v σ H Q, t' v σ H Q → t v σ H Q) : PGs X e t' := ⟨fun pins s σ H v u Q I r q => h.run pins s σ H v u Q I r (m _ _ _ _ q)⟩
theorem fg_name (i : Nat) {x : Str} {pos : Pos} (hN : X.N.Nodup) (hi : X.N[i]? = some x := by rfl) (hx : Loc X.env.scope x := by first | exact Or.inl rfl | exact Or.inr rfl) (hf : X.fn x = true ∨ X.env.scope.names.lookup x = some .local := by first | exact .inl rfl | exact .inr rfl | assumption) : FG K X (.Name x pos) (tgN i) :=
  PG.to (pg_name hN hi hx hf) fun v σ H Q ⟨F, d, as, s, h, e, q⟩ => by
    cases e
    exact q [(i, v)] (.cons ⟨rfl, h⟩ .nil)
theorem fgs_nil : FGs K X [] [] := PGs.to pgs_nil fun v σ H Q ⟨F, d, as, s, h, e, q⟩ => by
  cases h with
  | nil => cases e; exact ⟨rfl, q [] .nil⟩
  | cons a b => cases e
theorem As.app {F : Hp} : ∀ {a b : List (Nat × V)} {c d : List (Nat × D)}, As K F a c → As K F b d → As K F (a ++ b) (c ++ d)
  | _, _, _, _, .nil, h => h
  | _, _, _, _, .cons x y, h => .cons x (As.app y h)
theorem fgs_cons {e : Expr} {es : List Expr} {g : Tgt} {gs : List Tgt} (h : FG K X e g) (r : FGs K X es gs) (hs : (assignEach (e :: es) X.env).map (·.2) = assign e X.env :: (assignEach es X.env).map (·.2) := by rfl) : FGs K X (e :: es) (g :: gs) :=
  PGs.to (pgs_cons h r hs) fun v σ H Q ⟨F, ds, as, s, hd, e, q⟩ => by
    cases hd with
    | nil => cases e
    | @cons v vs d ds a b =>
      unfold tgL at e
      cases e1 : g d with
      | exc x => rw [e1] at e; cases e
      | bad => rw [e1] at e; cases e
      | ok c =>
        rw [e1, Res.bind_ok] at e
        cases e2 : tgL gs ds with
        | exc x => rw [e2] at e; cases e
        | bad => rw [e2] at e; cases e
        | ok c' =>
          rw [e2] at e
          cases e
          exact ⟨v, vs, rfl, F, d, c, s, a, e1, fun bs hb => ⟨F, ds, c', s, b, e2, fun bs' hb' => by
            rw [← setAll_app]
            exact q _ (hb.app hb')⟩⟩
theorem fg_tup {es : List Expr} {kk : Nat} {pos : Pos} {gs : List Tgt} (h : FGs K X es gs) (hc : X.calm = true := by rfl) (hk : X.K = K := by rfl) (hn : (assignEach es X.env).length = gs.length := by rfl) (hst : (assignEach es X.env).findIdx? (·.1) = none := by rfl) : FG K X (.Tuple es kk pos) (tgT gs) := by
  subst hk
  refine PG.to (pg_tup hc h hn hst) fun v σ H Q ⟨F, d, as, s, hd, e, q⟩ => ?_
  unfold tgT at e
  split at e
  · obtain ⟨p, xs, rfl, h1, h2⟩ := hd.tupE
    exact ⟨p, xs, rfl, (Below.of s).sqt h1, by rw [h2.length, tgL_len e], F, _, as, s, h2, e, q⟩
  · cases e
end
/-! ### slots forgotten -/
def wipeD (ρ : VEnv) : List Nat → VEnv
  | [] => ρ
  | v :: vs => (wipeD ρ vs).set v none
theorem wipe_get (σ : St) (j : Nat) : ∀ vs : List Nat, (wipe σ vs)[j]? = if j ∈ vs then σ[j]?.map (fun _ => none) else σ[j]?
  | [] => by simp [wipe]
  | v :: vs => by
    unfold wipe
    rw [List.getElem?_set]
    by_cases h : v = j
    · subst h
      rw [if_pos rfl, if_pos List.mem_cons_self, wipe_length]
      by_cases hl : v < σ.length
      · rw [if_pos hl, List.getElem?_eq_getElem hl]; rfl
      · rw [if_neg hl, List.getElem?_eq_none (by omega)]; rfl
    · rw [if_neg h, wipe_get σ j vs]
      have : (j ∈ v :: vs) ↔ j ∈ vs := ⟨fun q => (List.mem_cons.mp q).elim (fun e => absurd e.symm h) id, List.mem_cons_of_mem _⟩
      by_cases hj : j ∈ vs
      · rw [if_pos hj, if_pos (this.mpr hj)]
      · rw [if_neg hj, if_neg fun q => hj (this.mp q)]
theorem wipeD_get (σ : VEnv) (j : Nat) : ∀ vs : List Nat, (wipeD σ vs)[j]? = if j ∈ vs then σ[j]?.map (fun _ => none) else σ[j]?
  | [] => by simp [wipeD]
  | v :: vs => by
    unfold wipeD
    have wl : ∀ vs : List Nat, (wipeD σ vs).length = σ.length := by
      intro vs
      induction vs with
      | nil => rfl
      | cons a r ih => unfold wipeD; rw [List.length_set, ih]
    rw [List.getElem?_set]
    by_cases h : v = j
    · subst h
      rw [if_pos rfl, if_pos List.mem_cons_self, wl]
      by_cases hl : v < σ.length
      · rw [if_pos hl, List.getElem?_eq_getElem hl]; rfl
      · rw [if_neg hl, List.getElem?_eq_none (by omega)]; rfl
    · rw [if_neg h, wipeD_get σ j vs]
      have : (j ∈ v :: vs) ↔ j ∈ vs := ⟨fun q => (List.mem_cons.mp q).elim (fun e => absurd e.symm h) id, List.mem_cons_of_mem _⟩
      by_cases hj : j ∈ vs
      · rw [if_pos hj, if_pos (this.mpr hj)]
      · rw [if_neg hj, if_neg fun q => hj (this.mp q)]
theorem wipe_set {σ : St} {i : Nat} {x : Option V} {vs : List Nat} (h : i ∈ vs) : wipe (σ.set i x) vs = wipe σ vs := by
  refine List.ext_getElem? fun j => ?_
  rw [wipe_get, wipe_get]
  by_cases hj : j ∈ vs
  · rw [if_pos hj, if_pos hj, List.getElem?_set]
    by_cases e : i = j
    · subst e
      rw [if_pos rfl]
      by_cases hl : i < σ.length
      · rw [if_pos hl, List.getElem?_eq_getElem hl]; rfl
      · rw [if_neg hl, List.getElem?_eq_none (by omega)]
    · rw [if_neg e]
  · rw [if_neg hj, if_neg hj, List.getElem?_set_ne fun e => hj (by rw [← e]; exact h)]
theorem wipe_wipe (σ : St) (vs : List Nat) : wipe (wipe σ vs) vs = wipe σ vs := by
  refine List.ext_getElem? fun j => ?_
  rw [wipe_get, wipe_get]
  by_cases hj : j ∈ vs
  · rw [if_pos hj, if_pos hj, Option.map_map]; rfl
  · rw [if_neg hj]
theorem wipe_setAll {vs : List Nat} : ∀ {bs : List (Nat × V)} {σ : St}, (∀ b ∈ bs, b.1 ∈ vs) → wipe (setAll σ bs) vs = wipe σ vs
  | [], _, _ => rfl
  | b :: bs, σ, h => by
    show wipe (setAll (σ.set b.1 (some b.2)) bs) vs = _
    rw [wipe_setAll fun x hx => h x (List.mem_cons_of_mem _ hx), wipe_set (h b List.mem_cons_self)]
section
variable {K : PySem.W.Frag} {xm : XMo} {X : Cx}
theorem wipeD_len (σ : VEnv) : ∀ vs : List Nat, (wipeD σ vs).length = σ.length
  | [] => rfl
  | a :: r => by unfold wipeD; rw [List.length_set, wipeD_len σ r]
theorem Vw.wipe {F : Hp} {σ : St} {ρ : VEnv} (h : Vw K F σ ρ) (vs : List Nat) : Vw K F (L2.wipe σ vs) (wipeD ρ vs) := ⟨by rw [wipe_length, wipeD_len, h.len], fun i d e => by
  rw [wipeD_get] at e
  by_cases hj : i ∈ vs
  · rw [if_pos hj] at e
    obtain ⟨a, h1, h2⟩ := Option.map_eq_some_iff.mp e
    cases h2
  · rw [if_neg hj] at e
    obtain ⟨v, h1, h2⟩ := h.get i d e
    exact ⟨v, by rw [wipe_get, if_neg hj]; exact h1, h2⟩⟩
theorem Vw.set {F : Hp} {σ : St} {ρ : VEnv} (h : Vw K F σ ρ) {i : Nat} {v : V} {d : D} (hd : Dt K F v d) : Vw K F (σ.set i (some v)) (ρ.set i (some d)) := ⟨by rw [List.length_set, List.length_set, h.len], fun j e he => by
  have hl := h.len
  rw [List.getElem?_set] at he
  by_cases q : i = j
  · subst q
    rw [if_pos rfl] at he
    by_cases hi : i < ρ.length
    · rw [if_pos hi] at he
      cases he
      exact ⟨v, by rw [List.getElem?_set, if_pos rfl, if_pos (by omega)], hd⟩
    · rw [if_neg hi] at he; cases he
  · rw [if_neg q] at he
    obtain ⟨w, h1, h2⟩ := h.get j e he
    exact ⟨w, by rw [List.getElem?_set_ne q]; exact h1, h2⟩⟩
theorem Vw.setAll {F : Hp} : ∀ {bs : List (Nat × V)} {as : List (Nat × D)} {σ : St} {ρ : VEnv}, Vw K F σ ρ → As K F bs as → Vw K F (Du.setAll σ bs) (setAllD ρ as)
  | _, _, _, _, h, .nil => h
  | _, _, σ, ρ, h, .cons (a := a) (b := b) x y => Vw.setAll (σ := σ.set a.1 (some a.2)) (ρ := ρ.set b.1 (some b.2)) (by
      rw [x.1]
      exact h.set x.2) y
theorem As.slots {F : Hp} {vs : List Nat} : ∀ {bs : List (Nat × V)} {as : List (Nat × D)}, As K F bs as → as.all (fun p => vs.contains p.1) = true → ∀ b ∈ bs, b.1 ∈ vs
  | _, _, .nil, _ => fun b hb => by cases hb
  | _, _, .cons x y, h => fun b hb => by
    rw [List.all_cons, Bool.and_eq_true] at h
    rcases List.mem_cons.mp hb with rfl | hb
    · rw [x.1]
      simpa using h.1
    · exact As.slots y h.2 b hb
theorem As.same {F G : Hp} (s : Same F G) : ∀ {bs : List (Nat × V)} {as : List (Nat × D)}, As K F bs as → As K G bs as
  | _, _, .nil => .nil
  | _, _, .cons x y => .cons ⟨x.1, x.2.same s⟩ (As.same s y)
/-! ### [e for x in xs if c] -/
def compL (tg : Tgt) (c : VEnv → Res Bool) (f : VEnv → Res D) (ρ : VEnv) (vs : List Nat) : List D → Res (List D)
  | [] => .ok []
  | d :: ds => (tg d).bind fun as => if as.all (fun p => vs.contains p.1) = true then (c (setAllD ρ as)).bind fun b => if b = true then (f (setAllD ρ as)).bind fun e => (compL tg c f ρ vs ds).bind fun es => .ok (e :: es) else compL tg c f ρ vs ds else .bad
def okOf {α : Type} : Res α → Res α
  | .ok a => .ok a
  | _ => .bad
def eComp (vs : List Nat) (it : VEnv → Res (List D)) (tg : Tgt) (c : VEnv → Res Bool) (f : VEnv → Res D) : VEnv → Res D := fun ρ => (it ρ).bind fun ds => if fit ds.length = true then (okOf (compL tg c f (wipeD ρ vs) vs ds)).bind fun es => .ok (.lst es) else .bad
def bYes : VEnv → Res Bool := fun _ => .ok true
abbrev FTs (K : PySem.W.Frag) (X : Cx) (ifs : List Expr) (c : VEnv → Res Bool) : Prop := PTs X ifs (bF K none c)
theorem PTs.to {e : List Expr} {t t' : TT} (h : PTs X e t) (m : ∀ σ H Q, t' σ H Q → t σ H Q) : PTs X e t' := ⟨fun pins s σ H Q I q => h.run pins s σ H Q I (m _ _ _ q)⟩
theorem fts_nil : FTs K X [] bYes := PTs.to pts_nil fun σ H Q ⟨F, ρ, sF, vw, k⟩ => k.done sF rfl
theorem fts_one {c : Expr} {f : VEnv → Res Bool} (h : FT K none X c f) : FTs K X [c] f := pts_one h
theorem comp_loop {J : It} {tg : Tgt} {c : VEnv → Res Bool} {f : VEnv → Res D} {ρ : VEnv} {vs : List Nat} {ds es : List D} {σ : St} {F H : Hp} {p : Addr} {Q : VK} (sF : Same F H) (vw : Vw K F σ ρ) (y : Yl K F J ds) (hp : H p = none) (hz : fit ds.length = true)
    (hc : compL tg c f (wipeD ρ vs) vs ds = .ok es) (k : ∀ F' H' acc, Gr F H F' H' → F' p = none → H' p = some (.lst acc) → DtAll K F' acc es → Q (.ref p) H') :
    ∃ W : Nat → Nat → Hp → Prop, (∃ m, W 0 m (upd H p (.lst []))) ∧ ∀ i m H, W i m H →
      (J.stop i H ∧ Q (.ref p) H) ∨ (J.go i H ∧ ∃ Nx : Hp → Prop, (∀ H', Nx H' → ∃ m', m' < m ∧ W (i + 1) m' H') ∧ ∀ x H', J.yld i H x H' → gF K tg x (wipe σ vs) H' fun σ2 H2 => wipe σ2 vs = wipe σ vs ∧ bF K none c σ2 H2 fun b H3 =>
        if b = true then tF K none f σ2 H3 fun y H4 => ∃ acc, H4 p = some (.lst acc) ∧ acc.length < sizeLine ∧ Nx (upd H4 p (.lst (acc ++ [y]))) else Nx H3) := by
  let St' : Nat → Hp → Prop := fun i H2 => ∃ F2 acc da rest, Gr F H F2 H2 ∧ F2 p = none ∧ H2 p = some (.lst acc) ∧ DtAll K F2 acc da ∧ acc.length ≤ i ∧ compL tg c f (wipeD ρ vs) vs (ds.drop i) = .ok rest ∧ da ++ rest = es
  refine ⟨fun i m H2 => m = ds.length - i ∧ i ≤ ds.length ∧ St' i H2, ⟨ds.length, by simp, Nat.zero_le _, F, [], [], es, .hid sF hp, sF.free hp, upd_same, .nil, Nat.le_refl _, hc, rfl⟩, ?_⟩
  rintro i m H2 ⟨rfl, hi, F2, acc, da, rest, g, fp, ep, dd, la, hr, he⟩
  by_cases hlt : i < ds.length
  · refine .inr ⟨y.go i H2 hlt (g.ff.trans g.fh), St' (i + 1), fun H' p' => ⟨ds.length - (i + 1), by omega, rfl, hlt, p'⟩, fun x H3 yx => ?_⟩
    obtain ⟨F3, g3, dx⟩ := y.yld i ds[i] F2 H2 x H3 (List.getElem?_eq_getElem hlt) g.ff g.fh yx
    rw [List.drop_eq_getElem_cons hlt] at hr
    unfold compL at hr
    cases e1 : tg ds[i] with
    | exc x => rw [e1] at hr; cases hr
    | bad => rw [e1] at hr; cases hr
    | ok as =>
      rw [e1, Res.bind_ok] at hr
      by_cases ha : as.all (fun p => vs.contains p.1) = true
      · rw [if_pos ha] at hr
        refine ⟨F3, ds[i], as, g3.fh, dx, e1, fun bs hb => ⟨?_, ?_⟩⟩
        · rw [wipe_setAll (hb.slots ha), wipe_wipe]
        · have vw3 : Vw K F3 (Du.setAll (wipe σ vs) bs) (setAllD (wipeD ρ vs) as) := Vw.setAll ((vw.wipe vs).same (g.ff.trans g3.ff)) hb
          have fp3 : F3 p = none := by
            cases q : F3 p with
            | none => rfl
            | some o =>
              rcases g3.nw p o q with z | z
              · rw [fp] at z; cases z
              · rw [ep] at z; cases z
          have ep3 := g3.hh _ _ ep
          have keep : ∀ {F4 H4 : Hp}, Gr F3 H3 F4 H4 → F4 p = none ∧ H4 p = some (.lst acc) ∧ DtAll K F4 acc da := fun {F4 H4} g4 => by
            refine ⟨?_, g4.hh _ _ ep3, dd.same (g3.ff.trans g4.ff)⟩
            cases q : F4 p with
            | none => rfl
            | some o =>
              rcases g4.nw p o q with z | z
              · rw [fp3] at z; cases z
              · rw [ep3] at z; cases z
          cases e2 : c (setAllD (wipeD ρ vs) as) with
          | exc x => rw [e2] at hr; cases hr
          | bad => rw [e2] at hr; cases hr
          | ok b =>
            rw [e2, Res.bind_ok] at hr
            refine ⟨F3, _, g3.fh, vw3, ?_⟩
            rw [e2]
            intro b' F4 H4 g4 hb'
            subst hb'
            cases b' with
            | false =>
              rw [if_neg Bool.false_ne_true] at hr
              obtain ⟨k1, k2, k3⟩ := keep g4
              exact iteF ⟨F4, acc, da, rest, (g.trans g3).trans g4, k1, k2, k3, by omega, hr, he⟩
            | true =>
              rw [if_pos rfl] at hr
              cases e3 : f (setAllD (wipeD ρ vs) as) with
              | exc x => rw [e3] at hr; cases hr
              | bad => rw [e3] at hr; cases hr
              | ok e =>
                rw [e3, Res.bind_ok] at hr
                cases e4 : compL tg c f (wipeD ρ vs) vs (ds.drop (i + 1)) with
                | exc x => rw [e4] at hr; cases hr
                | bad => rw [e4] at hr; cases hr
                | ok r =>
                  rw [e4] at hr
                  cases hr
                  refine iteT ⟨F4, _, g4.fh, vw3.same g4.ff, ?_⟩
                  rw [e3]
                  intro v F5 H5 g5 dv
                  obtain ⟨k1, k2, k3⟩ := keep (g4.trans g5)
                  have lz : acc.length < sizeLine := Nat.lt_of_lt_of_le (by omega) (Nat.le_of_lt (fit_line hz))
                  have s5 : Same F5 (upd H5 p (.lst (acc ++ [v]))) := fun b o hb => by
                    rw [upd_ne fun z => by rw [z, k1] at hb; cases hb]
                    exact g5.fh _ _ hb
                  have gt := ((g.trans g3).trans g4).trans g5
                  refine ⟨acc, k2, lz, F5, acc ++ [v], da ++ [e], r, ⟨fun b o hb => ?_, gt.ff, s5, gt.nw⟩, k1, upd_same, k3.app (.cons dv .nil), by rw [List.length_append, List.length_singleton]; omega, e4, by rw [List.append_assoc]; exact he⟩
                  rw [upd_ne fun z => by rw [z, hp] at hb; cases hb]
                  exact gt.hh _ _ hb
      · rw [if_neg ha] at hr; cases hr
  · have e : i = ds.length := by omega
    subst e
    rw [List.drop_length] at hr
    cases hr
    rw [List.append_nil] at he
    subst he
    exact .inl ⟨y.stop H2 (g.ff.trans g.fh), k F2 H2 acc g fp ep dd⟩
/-- a new thing is frozen -/
theorem Gr.freeze {F H F' H' : Hp} {p : Addr} {o : HO} (g : Gr F H F' H') (hp : H p = none) (fp : F' p = none) (e : H' p = some o) : Gr F H (upd F' p o) H' := ⟨g.hh, fun b u hb => by
    rw [upd_ne fun z => by
      have z2 := g.ff _ _ hb
      rw [z, fp] at z2; cases z2]
    exact g.ff _ _ hb, fun b u hb => by
    by_cases z : b = p
    · subst z
      rw [upd_same] at hb
      cases hb
      exact e
    · rw [upd_ne z] at hb
      exact g.fh _ _ hb, fun b u hb => by
    by_cases z : b = p
    · subst z
      exact .inr hp
    · rw [upd_ne z] at hb
      exact g.nw _ _ hb⟩
theorem fe_comp {elt tg iter : Expr} {ifs : List Expr} {scope : Scope} {pos : Pos} (own : List (Str × Nat)) {it : VEnv → Res (List D)} {g : Tgt} {c : VEnv → Res Bool} {f : VEnv → Res D} (hN : X.N.Nodup) (hi : FI K xm X tg iter it)
    (hg : ∀ (s : Shared) (H : Hp) (C : Addr) (cl : List (Str × Addr)) (fp : List Addr), FG K (X.blk s H scope (compEnvC scope cl C X.env) fp) tg g) (ht : ∀ (s : Shared) (H : Hp) (C : Addr) (cl : List (Str × Addr)) (fp : List Addr), FTs K (X.blk s H scope (compEnvC scope cl C X.env) fp) ifs c)
    (he : ∀ (s : Shared) (H : Hp) (C : Addr) (cl : List (Str × Addr)) (fp : List Addr), FE K none (X.blk s H scope (compEnvC scope cl C X.env) fp) elt f)
    (ok : BlkOk X.N X.env.scope scope own) (hc : X.calm = true := by rfl) (hs : ∀ x, foldedSetIterable iter X.env x = pure x := by intro _; rfl) :
    FE K xm X (.ListComp elt [⟨tg, iter, ifs, 0⟩] scope pos) (eComp (own.map (·.2)) it g c f) :=
  PE.to (pe_lc hc hN hi ok hg ht he hs) fun σ H Q ⟨F, ρ, sF, vw, k⟩ => ⟨F, ρ, sF, vw, Po.seq k fun ds J F1 H1 g1 y k1 p hp => by
    obtain ⟨hz, k2⟩ := Po.ite k1
    cases e : compL g c f (wipeD ρ (own.map (·.2))) (own.map (·.2)) ds with
    | exc x => rw [e] at k2; exact k2.elim
    | bad => rw [e] at k2; exact k2.elim
    | ok es =>
      rw [e] at k2
      exact comp_loop g1.fh (vw.same g1.ff) y hp hz e fun F' H' acc g fp ep dd => k2 _ (upd F' p (.lst acc)) H' (g.freeze hp fp ep) (.lst upd_same (dd.same (sm_upd fp)))⟩
end
end Du

namespace Du
open PySem PySem.Spec PyProof.Rows L2
/-! ### slots at statements: what a def made itself and nobody else holds is its own (it may be changed), all else is frozen -/
inductive Slot where
  | frz (d : D)
  | own (t : Bool) (d : D)
abbrev Env := List (Option Slot)
def viewS (b : Bool) : Option Slot → Option D
  | some (.frz d) => some d
  | some (.own _ d) => if b = true then some d else none
  | none => none
def viewI (L : List Nat) : Nat → Env → VEnv
  | _, [] => []
  | i, s :: r => viewS (L.contains i) s :: viewI L (i + 1) r
/-- the slots as an expression sees them that reads the own ones of L -/
def view (L : List Nat) (ρ : Env) : VEnv := viewI L 0 ρ
def shutS (b : Bool) : Option Slot → Option Slot
  | some (.own t d) => if b = true then some (.frz d) else some (.own t d)
  | s => s
def shutI (L : List Nat) : Nat → Env → Env
  | _, [] => []
  | i, s :: r => shutS (L.contains i) s :: shutI L (i + 1) r
/-- the own ones of L are frozen from now on -/
def shut (L : List Nat) (ρ : Env) : Env := shutI L 0 ρ
theorem viewI_get (L : List Nat) : ∀ (n : Nat) (ρ : Env) (i : Nat), (viewI L n ρ)[i]? = (ρ[i]?).map (viewS (L.contains (n + i)))
  | n, [], i => by simp [viewI]
  | n, s :: r, 0 => by simp [viewI]
  | n, s :: r, i + 1 => by
    rw [viewI, List.getElem?_cons_succ, List.getElem?_cons_succ, viewI_get L (n + 1) r i]
    congr 3
    omega
theorem shutI_get (L : List Nat) : ∀ (n : Nat) (ρ : Env) (i : Nat), (shutI L n ρ)[i]? = (ρ[i]?).map (shutS (L.contains (n + i)))
  | n, [], i => by simp [shutI]
  | n, s :: r, 0 => by simp [shutI]
  | n, s :: r, i + 1 => by
    rw [shutI, List.getElem?_cons_succ, List.getElem?_cons_succ, shutI_get L (n + 1) r i]
    congr 3
    omega
theorem viewI_len (L : List Nat) : ∀ (n : Nat) (ρ : Env), (viewI L n ρ).length = ρ.length
  | _, [] => rfl
  | n, s :: r => by rw [viewI, List.length_cons, viewI_len L (n + 1) r, List.length_cons]
theorem shutI_len (L : List Nat) : ∀ (n : Nat) (ρ : Env), (shutI L n ρ).length = ρ.length
  | _, [] => rfl
  | n, s :: r => by rw [shutI, List.length_cons, shutI_len L (n + 1) r, List.length_cons]
theorem view_get (L : List Nat) (ρ : Env) (i : Nat) : (view L ρ)[i]? = (ρ[i]?).map (viewS (L.contains i)) := by
  unfold view
  rw [viewI_get, Nat.zero_add]
theorem shut_get (L : List Nat) (ρ : Env) (i : Nat) : (shut L ρ)[i]? = (ρ[i]?).map (shutS (L.contains i)) := by
  unfold shut
  rw [shutI_get, Nat.zero_add]
/-- an own thing at p -/
def Ow (K : PySem.W.Frag) (F H : Hp) (p : Addr) : D → Prop
  | .lst ds => ∃ xs, H p = some (.lst xs) ∧ DtAll K F xs ds
  | .dct false ds => ∃ kvs, H p = some (.dK kvs) ∧ DtAll K F (kvs.map (·.2)) (ds.map (·.2)) ∧ ds.map (·.1) = kvs.map (fun p => keyD p.1)
  | .dct true ds => ∃ kvs, H p = some (.dT kvs) ∧ DtAll K F (kvs.map (·.2)) (ds.map (·.2)) ∧ ds.map (·.1) = kvs.map (fun p => keysD p.1)
  | _ => False
/-- what has to stay: all of b; of b only what g has may be told of; pin: where the thing stands that was handed in to be changed -/
structure Bs where
  b : Hp
  g : Hp
  pin : Addr := 0
structure Rl (K : PySem.W.Frag) (B : Bs) (σ : St) (H : Hp) (ρ : Env) (F : Hp) : Prop where
  fh : Same F H
  bh : Same B.b H
  zf : ∀ a o u, B.b a = some o → F a = some u → ∃ v, B.g a = some v
  len : σ.length = ρ.length
  fz : ∀ (i : Nat) (d : D), ρ[i]? = some (some (.frz d)) → ∃ v, σ[i]? = some (some v) ∧ Dt K F v d
  ow : ∀ (i : Nat) (t : Bool) (d : D), ρ[i]? = some (some (.own t d)) → ∃ p, σ[i]? = some (some (.ref p)) ∧ F p = none ∧ B.b p = none ∧ Ow K F H p d
  dj : ∀ (i j : Nat) (t u : Bool) (d e : D) (p : Addr), ρ[i]? = some (some (.own t d)) → ρ[j]? = some (some (.own u e)) → σ[i]? = some (some (.ref p)) → σ[j]? = some (some (.ref p)) → i = j
  pn : ∀ (i : Nat) (d : D) (p : Addr), ρ[i]? = some (some (.own true d)) → σ[i]? = some (some (.ref p)) → p = B.pin
section
variable {K : PySem.W.Frag} {B : Bs} {F H : Hp} {σ : St} {ρ : Env}
theorem Ow.mono {F' H' : Hp} {p : Addr} {d : D} (h : Ow K F H p d) (s : Same F F') (e : ∀ o, H p = some o → H' p = some o) : Ow K F' H' p d := by
  unfold Ow at h ⊢
  split at h
  · obtain ⟨xs, h1, h2⟩ := h
    exact ⟨xs, e _ h1, h2.same s⟩
  · obtain ⟨kvs, h1, h2, h3⟩ := h
    exact ⟨kvs, e _ h1, h2.same s, h3⟩
  · obtain ⟨kvs, h1, h2, h3⟩ := h
    exact ⟨kvs, e _ h1, h2.same s, h3⟩
  · exact h.elim
theorem Ow.some {p : Addr} {d : D} (h : Ow K F H p d) : ∃ o, H p = Option.some o := by
  unfold Ow at h
  split at h
  · obtain ⟨xs, h1, h2⟩ := h
    exact ⟨_, h1⟩
  · obtain ⟨kvs, h1, h2, h3⟩ := h
    exact ⟨_, h1⟩
  · obtain ⟨kvs, h1, h2, h3⟩ := h
    exact ⟨_, h1⟩
  · exact h.elim
theorem Ow.notup {p : Addr} {d : D} (h : Ow K F H p d) (xs : List V) : H p ≠ Option.some (.tup xs) ∧ ∀ o, H p ≠ Option.some (.frz o (.tup xs)) := by
  unfold Ow at h
  split at h
  · obtain ⟨ys, h1, h2⟩ := h
    exact ⟨fun e => (by rw [h1] at e; cases e), fun o e => (by rw [h1] at e; cases e)⟩
  · obtain ⟨kvs, h1, h2, h3⟩ := h
    exact ⟨fun e => (by rw [h1] at e; cases e), fun o e => (by rw [h1] at e; cases e)⟩
  · obtain ⟨kvs, h1, h2, h3⟩ := h
    exact ⟨fun e => (by rw [h1] at e; cases e), fun o e => (by rw [h1] at e; cases e)⟩
  · exact h.elim
/-- it is frozen: told of -/
theorem Ow.dt {G : Hp} {p : Addr} {d : D} (h : Ow K F H p d) (s : Same F G) (e : ∀ o, H p = Option.some o → G p = Option.some o) : Dt K G (.ref p) d := by
  unfold Ow at h
  split at h
  · obtain ⟨xs, h1, h2⟩ := h
    exact .lst (e _ h1) (h2.same s)
  · obtain ⟨kvs, h1, h2, h3⟩ := h
    exact .dk (.inl (e _ h1)) (h2.same s) h3
  · obtain ⟨kvs, h1, h2, h3⟩ := h
    exact .dt (e _ h1) (h2.same s) h3
  · exact h.elim
/-- a is the cell of an own slot of L -/
def Cell (σ : St) (ρ : Env) (L : List Nat) (a : Addr) : Prop := ∃ (i : Nat) (t : Bool) (d : D), i ∈ L ∧ ρ[i]? = some (some (.own t d)) ∧ σ[i]? = some (some (.ref a))
open Classical in
/-- what an expression sees that reads the own ones of L -/
noncomputable def lend (σ : St) (ρ : Env) (L : List Nat) (F H : Hp) : Hp := fun a => if Cell σ ρ L a then H a else F a
open Classical in
noncomputable def unlend (σ : St) (ρ : Env) (L : List Nat) (F : Hp) : Hp := fun a => if Cell σ ρ L a then none else F a
theorem Rl.lend_fh (r : Rl K B σ H ρ F) (L : List Nat) : Same (lend σ ρ L F H) H := fun a o e => by
  unfold lend at e
  split at e
  · exact e
  · exact r.fh _ _ e
theorem Rl.lend_ff (r : Rl K B σ H ρ F) (L : List Nat) : Same F (lend σ ρ L F H) := fun a o e => by
  unfold lend
  split
  · exact r.fh _ _ e
  · exact e
theorem Rl.view (r : Rl K B σ H ρ F) (L : List Nat) : Vw K (lend σ ρ L F H) σ (view L ρ) := ⟨by
  unfold Du.view
  rw [viewI_len, r.len], fun i d e => by
  rw [view_get] at e
  obtain ⟨s, h1, h2⟩ := Option.map_eq_some_iff.mp e
  cases s with
  | none => cases h2
  | some s =>
    cases s with
    | frz e =>
      cases h2
      obtain ⟨v, q1, q2⟩ := r.fz i _ h1
      exact ⟨v, q1, q2.same (r.lend_ff L)⟩
    | own t e =>
      unfold viewS at h2
      dsimp only at h2
      by_cases c : L.contains i = true
      · rw [if_pos c] at h2
        cases h2
        obtain ⟨p, q1, q2, q3, q4⟩ := r.ow i _ _ h1
        refine ⟨_, q1, q4.dt (r.lend_ff L) fun o ho => ?_⟩
        have : Cell σ ρ L p := ⟨i, _, _, by simpa using c, h1, q1⟩
        unfold lend
        rw [if_pos this]
        exact ho
      · rw [if_neg c] at h2
        cases h2⟩
theorem Rl.own_new (r : Rl K B σ H ρ F) {L : List Nat} {F' H' : Hp} (g : Gr (lend σ ρ L F H) H F' H') {i : Nat} {t : Bool} {d : D} {p : Addr} (hi : ρ[i]? = some (some (.own t d))) (hp : σ[i]? = some (some (.ref p))) (hL : i ∉ L) : F' p = none := by
  obtain ⟨p', q1, q2, q3, q4⟩ := r.ow i _ _ hi
  rw [hp] at q1
  cases q1
  cases e : F' p with
  | none => rfl
  | some o =>
    exfalso
    rcases g.nw p o e with z | z
    · unfold lend at z
      split at z
      · rename_i c
        obtain ⟨j, t', d', hj, h1, h2⟩ := c
        exact hL (r.dj i j _ _ _ _ p hi h1 hp h2 ▸ hj)
      · rw [q2] at z; cases z
    · obtain ⟨o', h⟩ := q4.some
      rw [h] at z; cases z
theorem Rl.zf2 (r : Rl K B σ H ρ F) {L : List Nat} {F' H' : Hp} (g : Gr (lend σ ρ L F H) H F' H') {a : Addr} {o u : HO} (e1 : B.b a = some o) (e2 : F' a = some u) : ∃ v, B.g a = some v := by
  rcases g.nw _ _ e2 with z | z
  · unfold lend at z
    split at z
    · rename_i c
      obtain ⟨i, t, d, _, h1, h2⟩ := c
      obtain ⟨p, q1, _, q3, _⟩ := r.ow i _ d h1
      rw [h2] at q1
      cases q1
      rw [q3] at e1
      cases e1
    · exact r.zf _ _ _ e1 z
  · rw [r.bh _ _ e1] at z
    cases z
theorem Rl.back_ff (r : Rl K B σ H ρ F) {L : List Nat} {F' H' : Hp} (g : Gr (lend σ ρ L F H) H F' H') : Same F (unlend σ ρ L F') := fun a o e => by
  unfold unlend
  rw [if_neg ?_]
  · exact g.ff _ _ (r.lend_ff L _ _ e)
  · rintro ⟨i, t, d, _, h1, h2⟩
    obtain ⟨p, q1, q2, _⟩ := r.ow i _ d h1
    rw [h2] at q1
    cases q1
    rw [q2] at e
    cases e
/-- behind an expression whose value holds no list: all is as it was -/
theorem Rl.back (r : Rl K B σ H ρ F) {L : List Nat} {F' H' : Hp} (g : Gr (lend σ ρ L F H) H F' H') : Rl K B σ H' ρ (unlend σ ρ L F') := by
  have ff := r.back_ff g
  refine ⟨fun a o e => ?_, r.bh.trans g.hh, fun a o u e1 e2 => ?_, r.len, fun i d e => ?_, fun i t d e => ?_, r.dj, r.pn⟩
  · unfold unlend at e
    split at e
    · cases e
    · exact g.fh _ _ e
  · unfold unlend at e2
    split at e2
    · cases e2
    · exact r.zf2 g e1 e2
  · obtain ⟨v, h1, h2⟩ := r.fz i d e
    exact ⟨v, h1, h2.same ff⟩
  · obtain ⟨p, q1, q2, q3, q4⟩ := r.ow i _ d e
    refine ⟨p, q1, ?_, q3, q4.mono ff fun o ho => g.hh _ _ ho⟩
    unfold unlend
    by_cases c : Cell σ ρ L p
    · rw [if_pos c]
    · rw [if_neg c]
      exact r.own_new g e q1 fun hL => c ⟨i, t, d, hL, e, q1⟩
theorem Rl.back_dts (r : Rl K B σ H ρ F) {L : List Nat} {F' H' : Hp} (g : Gr (lend σ ρ L F H) H F' H') : Tups F' (unlend σ ρ L F') := fun a xs hr => by
  have nc : ¬ Cell σ ρ L a := by
    rintro ⟨j, t, e, _, h1, h2⟩
    obtain ⟨p, q1, _, _, q4⟩ := r.ow j _ e h1
    rw [h2] at q1
    cases q1
    obtain ⟨n1, n2⟩ := Ow.notup (q4.mono (F' := F) (H' := H') (.refl _) fun o ho => g.hh _ _ ho) xs
    exact n1 (g.fh _ _ hr)
  have e : unlend σ ρ L F' a = F' a := by
    unfold unlend
    rw [if_neg nc]
  exact e.trans hr
theorem Rl.back_dt (r : Rl K B σ H ρ F) {L : List Nat} {F' H' : Hp} (g : Gr (lend σ ρ L F H) H F' H') {v : V} {d : D} (i : imm d = true) (h : Dt K F' v d) : Dt K (unlend σ ρ L F') v d := Dt.tups (r.back_dts g) i h
/-- behind an expression whose value may hold the own ones of L: they are frozen -/
theorem Rl.shutted (r : Rl K B σ H ρ F) {L : List Nat} {F' H' : Hp} (g : Gr (lend σ ρ L F H) H F' H') : Rl K B σ H' (shut L ρ) F' := by
  have ff : Same F F' := (r.lend_ff L).trans g.ff
  have old : ∀ {i : Nat} {t : Bool} {d : D}, (shut L ρ)[i]? = some (some (.own t d)) → ρ[i]? = some (some (.own t d)) ∧ i ∉ L := fun {i t d} e => by
    rw [shut_get] at e
    obtain ⟨s, h1, h2⟩ := Option.map_eq_some_iff.mp e
    cases s with
    | none => cases h2
    | some s =>
      cases s with
      | frz e => cases h2
      | own t e =>
        unfold shutS at h2
        dsimp only at h2
        by_cases c : L.contains i = true
        · rw [if_pos c] at h2; cases h2
        · rw [if_neg c] at h2
          cases h2
          exact ⟨h1, fun z => c (by simpa using z)⟩
  refine ⟨g.fh, r.bh.trans g.hh, fun a o u e1 e2 => r.zf2 g e1 e2, by unfold shut; rw [shutI_len, r.len], fun i d e => ?_, fun i t d e => ?_, fun i j t u d e p h1 h2 => r.dj i j t u d e p (old h1).1 (old h2).1, fun i d p h => r.pn i d p (old h).1⟩
  · rw [shut_get] at e
    obtain ⟨s, h1, h2⟩ := Option.map_eq_some_iff.mp e
    cases s with
    | none => cases h2
    | some s =>
      cases s with
      | frz e =>
        cases h2
        obtain ⟨v, q1, q2⟩ := r.fz i _ h1
        exact ⟨v, q1, q2.same ff⟩
      | own t e =>
        unfold shutS at h2
        dsimp only at h2
        by_cases c : L.contains i = true
        · rw [if_pos c] at h2
          cases h2
          obtain ⟨p, q1, q2, q3, q4⟩ := r.ow i _ _ h1
          refine ⟨_, q1, q4.dt ff fun o ho => g.ff _ _ ?_⟩
          have : Cell σ ρ L p := ⟨i, _, _, by simpa using c, h1, q1⟩
          unfold lend
          rw [if_pos this]
          exact ho
        · rw [if_neg c] at h2; cases h2
  · obtain ⟨h1, h2⟩ := old e
    obtain ⟨p, q1, q2, q3, q4⟩ := r.ow i _ d h1
    exact ⟨p, q1, r.own_new g h1 q1 h2, q3, q4.mono ff fun o ho => g.hh _ _ ho⟩
/-- the slots behind an expression that gave d -/
def aft (L : List Nat) (d : D) (ρ : Env) : Env := if imm d = true then ρ else shut L ρ
theorem Rl.aft (r : Rl K B σ H ρ F) {L : List Nat} {F' H' : Hp} (g : Gr (lend σ ρ L F H) H F' H') {v : V} {d : D} (h : Dt K F' v d) : ∃ F2, Rl K B σ H' (aft L d ρ) F2 ∧ Dt K F2 v d ∧ Same F F2 := by
  unfold Du.aft
  by_cases i : imm d = true
  · rw [if_pos i]
    exact ⟨_, r.back g, r.back_dt g i h, r.back_ff g⟩
  · rw [if_neg i]
    exact ⟨_, r.shutted g, h, (r.lend_ff L).trans g.ff⟩
/-- the slots behind an expression whose value is taken apart: ds are its parts -/
def aftL (L : List Nat) (ds : List D) (ρ : Env) : Env := if imms ds = true then ρ else shut L ρ
theorem Rl.aftL (r : Rl K B σ H ρ F) {L : List Nat} {F' H' : Hp} (g : Gr (lend σ ρ L F H) H F' H') {vs : List V} {ds : List D} (h : DtAll K F' vs ds) : ∃ F2, Rl K B σ H' (aftL L ds ρ) F2 ∧ DtAll K F2 vs ds ∧ Same F F2 ∧ ∀ p, F' p = none → F2 p = none := by
  unfold Du.aftL
  by_cases i : imms ds = true
  · rw [if_pos i]
    refine ⟨_, r.back g, DtAll.tups (r.back_dts g) i h, r.back_ff g, fun p hp => ?_⟩
    unfold unlend
    split
    · rfl
    · exact hp
  · rw [if_neg i]
    exact ⟨_, r.shutted g, h, (r.lend_ff L).trans g.ff, fun _ h => h⟩
end
/-! ### what a statement comes to -/
inductive Out where
  | nx (ρ : Env)
  | bk (ρ : Env)
  | ct (ρ : Env)
  | rt (d : D) (ρ : Env)
  | ro (d : D) (ρ : Env)
  | ex (x : Ex) (ρ : Env)
  | bad
def So (K : PySem.W.Frag) (xm : XMo) (B : Bs) (Dn : Ends) : Out → Prop
  | .nx ρ => ∀ σ H F, Rl K B σ H ρ F → Dn.nx σ H
  | .bk ρ => ∀ σ H F, Rl K B σ H ρ F → Dn.bk σ H
  | .ct ρ => ∀ σ H F, Rl K B σ H ρ F → Dn.ct σ H
  | .rt d ρ => ∀ v σ H F, Rl K B σ H ρ F → Dt K F v d → Dn.rt v H
  | .ro d ρ => ∀ p σ H F, Rl K B σ H ρ F → F p = none → B.b p = none → Ow K F H p d → Dn.rt (.ref p) H
  | .ex x ρ => match xm with
    | none => False
    | some m => ∀ C dd σ H F, Rl K B σ H ρ F → ExIs K m.mg x F C dd → m.W C dd σ H
  | .bad => False
def sF (K : PySem.W.Frag) (xm : XMo) (g : Env → Out) : TS := fun Dn σ H => ∃ B ρ F, Rl K B σ H ρ F ∧ So K xm B Dn (g ρ)
abbrev FS (K : PySem.W.Frag) (xm : XMo) (X : Cx) (st : Stmt) (g : Env → Out) : Prop := PS X st (sF K xm g)
abbrev FSs (K : PySem.W.Frag) (xm : XMo) (X : Cx) (st : List Stmt) (g : Env → Out) : Prop := PSs X st (sF K xm g)
/-- a pure expression at a statement: its value, and the slots behind it -/
def eAt {α : Type} (L : List Nat) (f : VEnv → Res α) (ρ : Env) (k : α → Out) : Out := match f (view L ρ) with
  | .ok a => k a
  | .exc x => .ex x (shut L ρ)
  | .bad => .bad
section
variable {K : PySem.W.Frag} {xm : XMo} {X : Cx} {B : Bs} {F H : Hp} {σ : St} {ρ : Env} {Dn : Ends}
theorem exc_at {L : List Nat} {x : Ex} (r : Rl K B σ H ρ F) (k : So K xm B Dn (.ex x (shut L ρ))) : Xw K xm σ (lend σ ρ L F H) H x := by
  cases xm with
  | none => exact k.elim
  | some m => exact fun C dd F' H' g e => k C dd σ H' F' (r.shutted g) e
theorem tF.at {L : List Nat} {f : VEnv → Res D} {k : D → Out} {Q : VK} (r : Rl K B σ H ρ F) (h : So K xm B Dn (eAt L f ρ k)) (n : ∀ d v H' F', f (view L ρ) = .ok d → Rl K B σ H' (aft L d ρ) F' → Dt K F' v d → Same F F' → Same H H' → So K xm B Dn (k d) → Q v H') : tF K xm f σ H Q := by
  refine ⟨_, _, r.lend_fh L, r.view L, ?_⟩
  unfold eAt at h
  cases e : f (view L ρ) with
  | ok d =>
    rw [e] at h
    intro v F' H' g hd
    obtain ⟨F2, r2, h2, h3⟩ := r.aft g hd
    exact n d v H' F2 e r2 h2 h3 g.hh h
  | exc x =>
    rw [e] at h
    exact exc_at r h
  | bad => rw [e] at h; exact h.elim
theorem bF.at {L : List Nat} {f : VEnv → Res Bool} {k : Bool → Out} {Q : Bool → Hp → Prop} (r : Rl K B σ H ρ F) (h : So K xm B Dn (eAt L f ρ k)) (n : ∀ b H' F', f (view L ρ) = .ok b → Rl K B σ H' ρ F' → So K xm B Dn (k b) → Q b H') : bF K xm f σ H Q := by
  refine ⟨_, _, r.lend_fh L, r.view L, ?_⟩
  unfold eAt at h
  cases e : f (view L ρ) with
  | ok d =>
    rw [e] at h
    intro v F' H' g hd
    subst hd
    exact n v H' _ e (r.back g) h
  | exc x =>
    rw [e] at h
    exact exc_at r h
  | bad => rw [e] at h; exact h.elim
end
end Du

namespace Du
open PySem PySem.Spec PyProof.Rows L2
section
variable {K : PySem.W.Frag} {xm : XMo} {X : Cx} {B B' : Bs} {F H : Hp} {σ : St} {ρ : Env} {Dn : Ends}
structure Bs.Le (B B' : Bs) : Prop where
  b : Same B.b B'.b
  g : ∀ a o u, B.b a = some o → B'.g a = some u → ∃ v, B.g a = some v
  pin : B'.pin = B.pin
theorem Bs.Le.refl (B : Bs) : B.Le B := ⟨.refl _, fun _ _ _ _ e => ⟨_, e⟩, rfl⟩
theorem Rl.unbase (r : Rl K B' σ H ρ F) (s : B.Le B') : Rl K B σ H ρ F := ⟨r.fh, s.b.trans r.bh, fun a o u e1 e2 => by
  obtain ⟨v, h⟩ := r.zf a o u (s.b _ _ e1) e2
  exact s.g a o v e1 h, r.len, r.fz, fun i t d e => by
  obtain ⟨p, q1, q2, q3, q4⟩ := r.ow i _ d e
  exact ⟨p, q1, q2, s.b.free q3, q4⟩, r.dj, fun i d p h1 h2 => (r.pn i d p h1 h2).trans s.pin⟩
theorem So.weak {o : Out} (h : So K xm B Dn o) (s : B.Le B') : So K xm B' Dn o := by
  cases o with
  | nx ρ => exact fun σ H F r => h σ H F (r.unbase s)
  | bk ρ => exact fun σ H F r => h σ H F (r.unbase s)
  | ct ρ => exact fun σ H F r => h σ H F (r.unbase s)
  | rt d ρ => exact fun v σ H F r => h v σ H F (r.unbase s)
  | ro d ρ => exact fun p σ H F r f b => h p σ H F (r.unbase s) f (s.b.free b)
  | ex x ρ =>
    cases xm with
    | none => exact h
    | some m => exact fun C dd σ H F r => h C dd σ H F (r.unbase s)
  | bad => exact h
/-- both of two parts of a heap -/
def both (F G : Hp) : Hp := fun a => match F a with | some o => some o | none => G a
theorem both_l {F G : Hp} : Same F (both F G) := fun a o e => by
  show (match F a with | some o => some o | none => G a) = some o
  rw [e]
theorem both_r {F G H : Hp} (s : Same F H) (t : Same G H) : Same G (both F G) := fun a o e => by
  show (match F a with | some o => some o | none => G a) = some o
  cases q : F a with
  | none => exact e
  | some u => exact (s _ _ q).symm.trans (t _ _ e)
theorem both_in {F G H : Hp} (s : Same F H) (t : Same G H) : Same (both F G) H := fun a o e => by
  have e : (match F a with | some o => some o | none => G a) = some o := e
  cases q : F a with
  | none =>
    rw [q] at e
    exact t _ _ e
  | some u =>
    rw [q] at e
    cases e
    exact s _ _ q
theorem both_cases {F G : Hp} {a : Addr} {o : HO} (e : both F G a = some o) : F a = some o ∨ G a = some o := by
  have e : (match F a with | some o => some o | none => G a) = some o := e
  cases q : F a with
  | none => rw [q] at e; exact .inr e
  | some u => rw [q] at e; cases e; exact .inl rfl
theorem both_none {F G : Hp} {a : Addr} (e : F a = none) (e2 : G a = none) : both F G a = none := by
  show (match F a with | some o => some o | none => G a) = none
  rw [e]
  exact e2
/-- what is frozen is kept, too -/
theorem Rl.base (r : Rl K B σ H ρ F) : ∃ B' : Bs, B.Le B' ∧ Same F B'.b ∧ Same F B'.g ∧ Rl K B' σ H ρ F := by
  refine ⟨⟨both F B.b, both F B.g, B.pin⟩, ⟨both_r r.fh r.bh, fun a o u e1 e2 => ?_, rfl⟩, both_l, both_l, r.fh, both_in r.fh r.bh, fun a o u e1 e2 => ⟨u, both_l _ _ e2⟩, r.len, r.fz, fun i t d e => ?_, r.dj, r.pn⟩
  · rcases both_cases e2 with z | z
    · exact r.zf _ _ _ e1 z
    · exact ⟨_, z⟩
  · obtain ⟨p, q1, q2, q3, q4⟩ := r.ow i _ d e
    exact ⟨p, q1, q2, both_none q2 q3, q4⟩
theorem Rl.grow {F' H' : Hp} (r : Rl K B σ H ρ F) (g : Gr F H F' H') : Rl K B σ H' ρ F' := ⟨g.fh, r.bh.trans g.hh, fun a o u e1 e2 => by
  exact (g.nw _ _ e2).elim (fun z => r.zf _ _ _ e1 z) (fun z => by rw [r.bh _ _ e1] at z; cases z), r.len, fun i d e => by
  obtain ⟨v, h1, h2⟩ := r.fz i d e
  exact ⟨v, h1, h2.same g.ff⟩, fun i t d e => by
  obtain ⟨p, q1, q2, q3, q4⟩ := r.ow i _ d e
  refine ⟨p, q1, ?_, q3, q4.mono g.ff fun o ho => g.hh _ _ ho⟩
  cases q : F' p with
  | none => rfl
  | some o =>
    exfalso
    exact (g.nw p o q).elim (fun z => by rw [q2] at z; cases z) (fun z => by
      obtain ⟨o', h⟩ := q4.some
      rw [h] at z; cases z), r.dj, r.pn⟩
theorem set_cases {α : Type} {l : List α} {i j : Nat} {a b : α} (h : (l.set i a)[j]? = some b) : (i = j ∧ b = a ∧ i < l.length) ∨ (i ≠ j ∧ l[j]? = some b) := by
  rw [List.getElem?_set] at h
  by_cases q : i = j
  · rw [if_pos q] at h
    subst q
    by_cases hi : i < l.length
    · rw [if_pos hi] at h
      cases h
      exact .inl ⟨rfl, rfl, hi⟩
    · rw [if_neg hi] at h; cases h
  · rw [if_neg q] at h
    exact .inr ⟨q, h⟩
theorem Rl.set (r : Rl K B σ H ρ F) {i : Nat} {v : V} {d : D} (h : Dt K F v d) : Rl K B (σ.set i (some v)) H (ρ.set i (some (.frz d))) F := ⟨r.fh, r.bh, r.zf, by rw [List.length_set, List.length_set, r.len], fun j e he => by
  rcases set_cases he with ⟨rfl, q, hi⟩ | ⟨hj, q⟩
  · cases q
    exact ⟨v, by rw [List.getElem?_set, if_pos rfl, if_pos (by rw [r.len]; exact hi)], h⟩
  · obtain ⟨w, h1, h2⟩ := r.fz j e q
    exact ⟨w, by rw [List.getElem?_set_ne hj]; exact h1, h2⟩, fun j t e he => by
  rcases set_cases he with ⟨rfl, q, hi⟩ | ⟨hj, q⟩
  · cases q
  · obtain ⟨p, q1, q2, q3, q4⟩ := r.ow j _ e q
    exact ⟨p, by rw [List.getElem?_set_ne hj]; exact q1, q2, q3, q4⟩, fun j k t u d1 d2 p h1 h2 h3 h4 => by
  rcases set_cases h1 with ⟨rfl, q, hi⟩ | ⟨hj, q⟩
  · cases q
  · rcases set_cases h2 with ⟨rfl, q', hi⟩ | ⟨hj', q'⟩
    · cases q'
    · rw [List.getElem?_set_ne hj] at h3
      rw [List.getElem?_set_ne hj'] at h4
      exact r.dj j k t u d1 d2 p q q' h3 h4, fun j d p h1 h2 => by
  rcases set_cases h1 with ⟨rfl, q, hi⟩ | ⟨hj, q⟩
  · cases q
  · rw [List.getElem?_set_ne hj] at h2
    exact r.pn j d p q h2⟩
/-- a slot is forgotten -/
theorem Rl.drop (r : Rl K B σ H ρ F) (i : Nat) : Rl K B σ H (ρ.set i none) F := ⟨r.fh, r.bh, r.zf, by rw [List.length_set, r.len], fun j e he => by
  rcases set_cases he with ⟨rfl, q, hi⟩ | ⟨hj, q⟩
  · cases q
  · exact r.fz j e q, fun j t e he => by
  rcases set_cases he with ⟨rfl, q, hi⟩ | ⟨hj, q⟩
  · cases q
  · exact r.ow j t e q, fun j k t u d1 d2 p h1 h2 h3 h4 => by
  rcases set_cases h1 with ⟨rfl, q, hi⟩ | ⟨hj, q⟩
  · cases q
  · rcases set_cases h2 with ⟨rfl, q', hi⟩ | ⟨hj', q'⟩
    · cases q'
    · exact r.dj j k t u d1 d2 p q q' h3 h4, fun j d p h1 h2 => by
  rcases set_cases h1 with ⟨rfl, q, hi⟩ | ⟨hj, q⟩
  · cases q
  · exact r.pn j d p q h2⟩
def clr : List Nat → Env → Env
  | [], ρ => ρ
  | i :: l, ρ => clr l (ρ.set i none)
theorem Rl.clr (r : Rl K B σ H ρ F) : ∀ l : List Nat, Rl K B σ H (Du.clr l ρ) F := fun l => by
  induction l generalizing ρ with
  | nil => exact r
  | cons i l ih => exact ih (r.drop i)
def setS (ρ : Env) : List (Nat × D) → Env
  | [] => ρ
  | p :: ps => setS (ρ.set p.1 (some (.frz p.2))) ps
theorem Rl.setAll : ∀ {bs : List (Nat × V)} {as : List (Nat × D)} {σ : St} {ρ : Env}, Rl K B σ H ρ F → As K F bs as → Rl K B (Du.setAll σ bs) H (setS ρ as) F
  | _, _, _, _, h, .nil => h
  | _, _, σ, ρ, h, .cons (a := a) (b := b) x y => Rl.setAll (σ := σ.set a.1 (some a.2)) (ρ := ρ.set b.1 (some (.frz b.2))) (by
      rw [x.1]
      exact h.set x.2) y
/-- a new thing of one's own -/
theorem Rl.setOwn (r : Rl K B σ H ρ F) {i : Nat} {p : Addr} {d : D} (h : Ow K F H p d) (fp : F p = none) (bp : B.b p = none) (np : ∀ (j : Nat) (t : Bool) (e : D), ρ[j]? = some (some (.own t e)) → σ[j]? = some (some (.ref p)) → j = i) : Rl K B (σ.set i (some (.ref p))) H (ρ.set i (some (.own false d))) F := ⟨r.fh, r.bh, r.zf, by rw [List.length_set, List.length_set, r.len], fun j e he => by
  rcases set_cases he with ⟨rfl, q, hi⟩ | ⟨hj, q⟩
  · cases q
  · obtain ⟨w, h1, h2⟩ := r.fz j e q
    exact ⟨w, by rw [List.getElem?_set_ne hj]; exact h1, h2⟩, fun j t e he => by
  rcases set_cases he with ⟨rfl, q, hi⟩ | ⟨hj, q⟩
  · cases q
    exact ⟨p, by rw [List.getElem?_set, if_pos rfl, if_pos (by rw [r.len]; exact hi)], fp, bp, h⟩
  · obtain ⟨p', q1, q2, q3, q4⟩ := r.ow j _ e q
    exact ⟨p', by rw [List.getElem?_set_ne hj]; exact q1, q2, q3, q4⟩, fun j k t u d1 d2 p' h1 h2 h3 h4 => by
  rcases set_cases h1 with ⟨rfl, q, hi⟩ | ⟨hj, q⟩
  · rcases set_cases h2 with ⟨rfl, q', hi'⟩ | ⟨hk, q'⟩
    · rfl
    · rw [List.getElem?_set, if_pos rfl, if_pos (by rw [r.len]; exact hi)] at h3
      cases h3
      rw [List.getElem?_set_ne hk] at h4
      exact absurd (np k _ _ q' h4).symm hk
  · rcases set_cases h2 with ⟨rfl, q', hi'⟩ | ⟨hk, q'⟩
    · rw [List.getElem?_set, if_pos rfl, if_pos (by rw [r.len]; exact hi')] at h4
      cases h4
      rw [List.getElem?_set_ne hj] at h3
      exact absurd (np j _ _ q h3).symm hj
    · rw [List.getElem?_set_ne hj] at h3
      rw [List.getElem?_set_ne hk] at h4
      exact r.dj j k t u d1 d2 p' q q' h3 h4, fun j e p' h1 h2 => by
  rcases set_cases h1 with ⟨rfl, q, hi⟩ | ⟨hj, q⟩
  · cases q
  · rw [List.getElem?_set_ne hj] at h2
    exact r.pn j e p' q h2⟩
/-- an own thing is changed -/
theorem Rl.write (r : Rl K B σ H ρ F) {i : Nat} {t : Bool} {p : Addr} {d d' : D} {o : HO} (hi : ρ[i]? = some (some (.own t d))) (hp : σ[i]? = some (some (.ref p))) (h : Ow K F (upd H p o) p d') : Rl K B σ (upd H p o) (ρ.set i (some (.own t d'))) F := by
  obtain ⟨p', q1, q2, q3, q4⟩ := r.ow i _ d hi
  rw [hp] at q1
  cases q1
  refine ⟨fun a u e => ?_, fun a u e => ?_, r.zf, by rw [List.length_set, r.len], fun j e he => ?_, fun j t2 e he => ?_, fun j k t1 t2 d1 d2 p' h1 h2 h3 h4 => ?_, fun j e p' h1 h2 => ?_⟩
  · rw [upd_ne fun z => by rw [z, q2] at e; cases e]
    exact r.fh _ _ e
  · rw [upd_ne fun z => by rw [z, q3] at e; cases e]
    exact r.bh _ _ e
  · rcases set_cases he with ⟨rfl, q, _⟩ | ⟨hj, q⟩
    · cases q
    · exact r.fz j e q
  · rcases set_cases he with ⟨rfl, q, _⟩ | ⟨hj, q⟩
    · cases q
      exact ⟨p, hp, q2, q3, h⟩
    · obtain ⟨p', w1, w2, w3, w4⟩ := r.ow j _ e q
      refine ⟨p', w1, w2, w3, w4.mono (.refl _) fun u hu => ?_⟩
      rw [upd_ne fun z => hj (by
        subst z
        exact r.dj i j _ _ _ _ _ hi q hp w1)]
      exact hu
  · rcases set_cases h1 with ⟨rfl, q, _⟩ | ⟨hj, q⟩
    · rcases set_cases h2 with ⟨rfl, q', _⟩ | ⟨hk, q'⟩
      · rfl
      · exact r.dj _ k _ _ _ _ p' hi q' h3 h4
    · rcases set_cases h2 with ⟨rfl, q', _⟩ | ⟨hk, q'⟩
      · exact r.dj j _ _ _ _ _ p' q hi h3 h4
      · exact r.dj j k _ _ _ _ p' q q' h3 h4
  · rcases set_cases h1 with ⟨rfl, q, _⟩ | ⟨hj, q⟩
    · cases q
      exact r.pn _ _ _ hi h2
    · exact r.pn j e p' q h2
/-! ### small statements, blocks -/
def sPass : Env → Out := fun ρ => .nx ρ
def sBreak : Env → Out := fun ρ => .bk ρ
def sCont : Env → Out := fun ρ => .ct ρ
def sSeq (g h : Env → Out) : Env → Out := fun ρ => match g ρ with
  | .nx ρ' => h ρ'
  | o => o
theorem fs_pass {pos : Pos} : FS K xm X (.Pass pos) sPass := PS.to ps_pass fun Dn σ H ⟨B, ρ, F, r, k⟩ => k σ H F r
theorem fs_break {pos : Pos} : FS K xm X (.Break pos) sBreak := PS.to ps_break fun Dn σ H ⟨B, ρ, F, r, k⟩ => k σ H F r
theorem fs_cont {pos : Pos} : FS K xm X (.Continue pos) sCont := PS.to ps_continue fun Dn σ H ⟨B, ρ, F, r, k⟩ => k σ H F r
theorem fss_nil : FSs K xm X [] sPass := PSs.to pss_nil fun Dn σ H ⟨B, ρ, F, r, k⟩ => k σ H F r
theorem fss_one {st : Stmt} {g : Env → Out} (h : FS K xm X st g) : FSs K xm X [st] g := pss_one h
theorem fss_cons {st : Stmt} {rest : List Stmt} {g h : Env → Out} (h1 : FS K xm X st g) (h2 : FSs K xm X rest h) : FSs K xm X (st :: rest) (sSeq g h) :=
  PSs.to (pss_cons h1 h2) fun Dn σ H ⟨B, ρ, F, r, k⟩ => ⟨B, ρ, F, r, by
    unfold sSeq at k
    cases e : g ρ with
    | nx ρ' =>
      rw [e] at k
      exact fun σ' H' F' r' => ⟨B, ρ', F', r', k⟩
    | bk ρ' => rw [e] at k; exact k
    | ct ρ' => rw [e] at k; exact k
    | rt d ρ' => rw [e] at k; exact k
    | ro d ρ' => rw [e] at k; exact k
    | ex x ρ' =>
      rw [e] at k
      cases xm with
      | none => exact k
      | some m => exact k
    | bad => rw [e] at k; exact k⟩
theorem fss_doc {x : Str} {j : Nat} {p1 p2 : Pos} {rest : List Stmt} {g : Env → Out} (h : FSs K xm X rest g) : FSs K xm X (.Expr (.Constant (.str x) j p1) p2 :: rest) g :=
  PSs.to (pss_cons ps_doc h) fun Dn σ H k => k
/-- x = e, a, b = e -/
def sAsg (L : List Nat) (f : VEnv → Res D) (tg : Tgt) : Env → Out := fun ρ => eAt L f ρ fun d => match tg d with
  | .ok as => .nx (setS (aft L d ρ) as)
  | _ => .bad
theorem fs_asg {tg e : Expr} {L : List Nat} {f : VEnv → Res D} {g : Tgt} {pos : Pos} (he : FE K xm X e f) (hg : FG K X tg g) (hs : swapsWithSole [tg] e pos.line X.env = pure false := by rfl) (hw : swappedStores [tg] e X.env = pure none := by rfl)
    (h1 : (assignEach [tg] X.env).map (·.2) = [assign tg X.env] := by rfl) : FS K xm X (.Assign [tg] e pos) (sAsg L f g) :=
  PS.to (ps_asg he hg hs hw h1) fun Dn σ H ⟨B, ρ, F, r, k⟩ => tF.at r k fun d v H' F' _ r' dv _ _ k' => by
    cases e : g d with
    | ok as =>
      rw [e] at k'
      exact ⟨F', d, as, r'.fh, dv, e, fun bs hb => k' _ _ _ (r'.setAll hb)⟩
    | exc x => rw [e] at k'; exact k'.elim
    | bad => rw [e] at k'; exact k'.elim
/-- e as a statement -/
def sExpr (L : List Nat) (f : VEnv → Res D) : Env → Out := fun ρ => eAt L f ρ fun d => .nx (aft L d ρ)
theorem fs_expr {e : Expr} {L : List Nat} {f : VEnv → Res D} {pos : Pos} (he : FE K xm X e f) (hs : swapsWith e none pos.line X.env = pure false := by rfl) : FS K xm X (.Expr e pos) (sExpr L f) :=
  PS.to (ps_expr he hs) fun Dn σ H ⟨B, ρ, F, r, k⟩ => tF.at r k fun d v H' F' _ r' dv _ _ k' => k' _ _ _ r'
def sRet (L : List Nat) (f : VEnv → Res D) : Env → Out := fun ρ => eAt L f ρ fun d => .rt d (aft L d ρ)
theorem fs_ret {e : Expr} {L : List Nat} {f : VEnv → Res D} {pos : Pos} (he : FE K xm X e f) : FS K xm X (.Return (some e) pos) (sRet L f) :=
  PS.to (ps_ret he) fun Dn σ H ⟨B, ρ, F, r, k⟩ => tF.at r k fun d v H' F' _ r' dv _ _ k' => k' _ _ _ _ r' dv
def sRetN : Env → Out := fun ρ => .rt .non ρ
theorem fs_retN {pos : Pos} : FS K xm X (.Return none pos) sRetN := PS.to ps_retN fun Dn σ H ⟨B, ρ, F, r, k⟩ => k _ _ _ _ r .non
def sIf (L : List Nat) (c : VEnv → Res Bool) (g h : Env → Out) : Env → Out := fun ρ => eAt L c ρ fun b => if b = true then g ρ else h ρ
theorem fs_if {c : Expr} {a b : List Stmt} {L : List Nat} {fc : VEnv → Res Bool} {g h : Env → Out} {pos : Pos} (hc : FT K xm X c fc) (ha : FSs K xm X a g) (hb : FSs K xm X b h) : FS K xm X (.If c a b pos) (sIf L fc g h) :=
  PS.to (ps_if hc ha hb) fun Dn σ H ⟨B, ρ, F, r, k⟩ => bF.at r k fun b H' F' _ r' k' => by
    cases b with
    | true => exact iteT ⟨B, ρ, F', r', by rwa [if_pos rfl] at k'⟩
    | false => exact iteF ⟨B, ρ, F', r', by rwa [if_neg Bool.false_ne_true] at k'⟩
/-! ### while -/
def loopO (k : Env → Out) : Out → Out
  | .nx ρ => k ρ
  | .ct ρ => k ρ
  | .bk ρ => .nx ρ
  | o => o
def whileN (L : List Nat) (c : VEnv → Res Bool) (g : Env → Out) : Nat → Env → Out
  | 0, _ => .bad
  | n + 1, ρ => eAt L c ρ fun b => if b = true then loopO (whileN L c g n) (g ρ) else .nx ρ
theorem whileN_mono (L : List Nat) (c : VEnv → Res Bool) (g : Env → Out) : ∀ (n : Nat) (ρ : Env), whileN L c g n ρ ≠ .bad → whileN L c g (n + 1) ρ = whileN L c g n ρ
  | 0, ρ, h => absurd rfl h
  | n + 1, ρ, h => by
    have ih := whileN_mono L c g n
    unfold whileN at h ⊢
    unfold eAt at h ⊢
    cases e : c (Du.view L ρ) with
    | ok b =>
      rw [e] at h
      dsimp only at h ⊢
      cases b with
      | true =>
        rw [if_pos rfl] at h ⊢
        rw [if_pos rfl]
        cases e2 : g ρ with
        | nx ρ' => rw [e2] at h; exact ih ρ' h
        | ct ρ' => rw [e2] at h; exact ih ρ' h
        | bk ρ' => rfl
        | rt d ρ' => rfl
        | ro d ρ' => rfl
        | ex x ρ' => rfl
        | bad => rfl
      | false => rfl
    | exc x => rfl
    | bad => rfl
theorem whileN_le (L : List Nat) (c : VEnv → Res Bool) (g : Env → Out) (n m : Nat) (ρ : Env) (h : whileN L c g n ρ ≠ .bad) (le : n ≤ m) : whileN L c g m ρ = whileN L c g n ρ := by
  induction m with
  | zero => rw [show n = 0 by omega]
  | succ m ih =>
    by_cases e : n = m + 1
    · rw [e]
    · have := ih (by omega)
      rw [whileN_mono L c g m ρ (by rw [this]; exact h), this]
open Classical in
noncomputable def sWhile (L : List Nat) (c : VEnv → Res Bool) (g : Env → Out) : Env → Out := fun ρ => if h : ∃ n, whileN L c g n ρ ≠ .bad then whileN L c g h.choose ρ else .bad
theorem sWhile_of {L : List Nat} {c : VEnv → Res Bool} {g : Env → Out} {n : Nat} {ρ : Env} (h : whileN L c g n ρ ≠ .bad) : sWhile L c g ρ = whileN L c g n ρ := by
  unfold sWhile
  have ex : ∃ n, whileN L c g n ρ ≠ .bad := ⟨n, h⟩
  rw [dif_pos ex]
  have q := ex.choose_spec
  rcases Nat.le_total n ex.choose with l | l
  · exact whileN_le L c g n _ ρ h l
  · exact (whileN_le L c g _ n ρ q l).symm
theorem sWhile_eq (L : List Nat) (c : VEnv → Res Bool) (g : Env → Out) (ρ : Env) : sWhile L c g ρ = eAt L c ρ fun b => if b = true then loopO (sWhile L c g) (g ρ) else .nx ρ := by
  have key : ∀ o : Out, o ≠ .bad → (sWhile L c g ρ = o ↔ (eAt L c ρ fun b => if b = true then loopO (sWhile L c g) (g ρ) else .nx ρ) = o) := fun o ho => by
    constructor
    · intro h
      have ex : ∃ n, whileN L c g n ρ ≠ .bad := by
        apply Classical.byContradiction
        intro q
        unfold sWhile at h
        rw [dif_neg q] at h
        exact ho h.symm
      obtain ⟨n, hn⟩ := ex
      rw [sWhile_of hn] at h
      cases n with
      | zero => exact absurd rfl hn
      | succ n =>
        unfold whileN at h hn
        unfold eAt at h hn ⊢
        cases e : c (Du.view L ρ) with
        | ok b =>
          rw [e] at h hn
          dsimp only at h hn ⊢
          cases b with
          | true =>
            rw [if_pos rfl] at h hn ⊢
            cases e2 : g ρ with
            | nx ρ' =>
              rw [e2] at h hn
              exact (sWhile_of hn).trans h
            | ct ρ' =>
              rw [e2] at h hn
              exact (sWhile_of hn).trans h
            | bk ρ' => rw [e2] at h; exact h
            | rt d ρ' => rw [e2] at h; exact h
            | ro d ρ' => rw [e2] at h; exact h
            | ex x ρ' => rw [e2] at h; exact h
            | bad => rw [e2] at h; exact h
          | false => exact h
        | exc x => rw [e] at h; exact h
        | bad => rw [e] at h; exact h
    · intro h
      have nb : ∀ ρ', sWhile L c g ρ' ≠ .bad → ∃ n, whileN L c g n ρ' ≠ .bad ∧ sWhile L c g ρ' = whileN L c g n ρ' := fun ρ' hb => by
        have ex : ∃ n, whileN L c g n ρ' ≠ .bad := by
          apply Classical.byContradiction
          intro q
          unfold sWhile at hb
          rw [dif_neg q] at hb
          exact hb rfl
        obtain ⟨n, hn⟩ := ex
        exact ⟨n, hn, sWhile_of hn⟩
      have ex : ∃ n, whileN L c g n ρ = o := by
        unfold eAt at h
        cases e : c (Du.view L ρ) with
        | ok b =>
          rw [e] at h
          dsimp only at h
          cases b with
          | true =>
            rw [if_pos rfl] at h
            have step : ∀ n, whileN L c g (n + 1) ρ = loopO (whileN L c g n) (g ρ) := fun n => by
              rw [whileN]
              unfold eAt
              rw [e]
              rfl
            cases e2 : g ρ with
            | nx ρ' =>
              rw [e2] at h
              obtain ⟨n, h1, h2⟩ := nb ρ' (by rw [show sWhile L c g ρ' = o from h]; exact ho)
              exact ⟨n + 1, by rw [step, e2]; exact h2.symm.trans h⟩
            | ct ρ' =>
              rw [e2] at h
              obtain ⟨n, h1, h2⟩ := nb ρ' (by rw [show sWhile L c g ρ' = o from h]; exact ho)
              exact ⟨n + 1, by rw [step, e2]; exact h2.symm.trans h⟩
            | bk ρ' => rw [e2] at h; exact ⟨1, by rw [step, e2]; exact h⟩
            | rt d ρ' => rw [e2] at h; exact ⟨1, by rw [step, e2]; exact h⟩
            | ro d ρ' => rw [e2] at h; exact ⟨1, by rw [step, e2]; exact h⟩
            | ex x ρ' => rw [e2] at h; exact ⟨1, by rw [step, e2]; exact h⟩
            | bad => rw [e2] at h; exact ⟨1, by rw [step, e2]; exact h⟩
          | false => exact ⟨1, by rw [whileN]; unfold eAt; rw [e]; exact h⟩
        | exc x => rw [e] at h; exact ⟨1, by rw [whileN]; unfold eAt; rw [e]; exact h⟩
        | bad => rw [e] at h; exact absurd h.symm ho
      obtain ⟨n, hn⟩ := ex
      rw [sWhile_of (n := n) (by rw [hn]; exact ho), hn]
  by_cases h : sWhile L c g ρ = .bad
  · by_cases h2 : (eAt L c ρ fun b => if b = true then loopO (sWhile L c g) (g ρ) else .nx ρ) = .bad
    · rw [h, h2]
    · exact ((key _ h2).mpr rfl)
  · exact ((key _ h).mp rfl).symm
theorem fs_while {c : Expr} {body : List Stmt} {L : List Nat} {fc : VEnv → Res Bool} {g : Env → Out} {pos : Pos} (hp : PassesOwn (model X.prog X.w) X.A X.env X.xe) (hc : FT K xm X c fc) (hb : FSs K xm X body g) : FS K xm X (.While c body [] pos) (sWhile L fc g) :=
  PS.to (ps_while hp hc hb) fun Dn σ H ⟨B, ρ, F, r, k⟩ => by
    have ex : ∃ n, whileN L fc g n ρ ≠ .bad := by
      apply Classical.byContradiction
      intro q
      unfold sWhile at k
      rw [dif_neg q] at k
      exact k
    obtain ⟨n, hn⟩ := ex
    rw [sWhile_of hn] at k
    refine ⟨fun m σ H => ∃ ρ F, Rl K B σ H ρ F ∧ So K xm B Dn (whileN L fc g m ρ), ⟨n, ρ, F, r, k⟩, ?_⟩
    rintro m σ H ⟨ρ, F, r, k⟩
    cases m with
    | zero => exact k.elim
    | succ m =>
      unfold whileN at k
      refine bF.at r k fun b H' F' _ r' k' => ?_
      cases b with
      | false => exact iteF (by rw [if_neg Bool.false_ne_true] at k'; exact k' _ _ _ r')
      | true =>
        rw [if_pos rfl] at k'
        refine iteT ⟨fun σ H => ∃ ρ F, Rl K B σ H ρ F ∧ So K xm B Dn (whileN L fc g m ρ), fun σ' H' q => ⟨m, Nat.lt_succ_self m, q⟩, B, ρ, F', r', ?_⟩
        cases e : g ρ with
        | nx ρ' => rw [e] at k'; exact fun σ H F r => ⟨ρ', F, r, k'⟩
        | ct ρ' => rw [e] at k'; exact fun σ H F r => ⟨ρ', F, r, k'⟩
        | bk ρ' => rw [e] at k'; exact k'
        | rt d ρ' => rw [e] at k'; exact k'
        | ro d ρ' => rw [e] at k'; exact k'
        | ex x ρ' =>
          rw [e] at k'
          cases xm with
          | none => exact k'
          | some m => exact k'
        | bad => rw [e] at k'; exact k'
/-! ### for -/
def forL (tg : Tgt) (g : Env → Out) (l : List Nat) : List D → Env → Out
  | [], ρ => .nx ρ
  | d :: ds, ρ => match tg d with
    | .ok as => loopO (fun ρ' => forL tg g l ds (clr l ρ')) (g (setS ρ as))
    | _ => .bad
def sFor (L : List Nat) (it : VEnv → Res (List D)) (tg : Tgt) (g : Env → Out) (l : List Nat) : Env → Out := fun ρ => eAt L it ρ fun ds => forL tg g l ds (shut L ρ)
theorem for_loop {gt : Tgt} {g : Env → Out} {l : List Nat} {tb : TS} {J : It} {ds : List D} (ht : tb = sF K xm g) (r : Rl K B σ H ρ F) (y : Yl K F J ds) (k : So K xm B Dn (forL gt g l ds ρ)) :
    ∃ W : Nat → Nat → St → Hp → Prop, (∃ m, W 0 m σ H) ∧ ∀ i m σ H, W i m σ H →
      (J.stop i H ∧ Dn.nx σ H) ∨ (J.go i H ∧ ∃ N : St → Hp → Prop, (∀ σ' H', N σ' H' → ∃ m', m' < m ∧ W (i + 1) m' σ' H') ∧ ∀ x H', J.yld i H x H' → gF K gt x σ H' fun σ2 H2 => tb { Dn with nx := N, ct := N, bk := Dn.nx } σ2 H2) := by
  subst ht
  obtain ⟨B1, sB, sF1, sF2, r1⟩ := r.base
  let St' : Nat → St → Hp → Prop := fun i σ2 H2 => ∃ ρ2 F2, Rl K B1 σ2 H2 ρ2 F2 ∧ So K xm B Dn (forL gt g l (ds.drop i) ρ2)
  refine ⟨fun i m σ2 H2 => m = ds.length - i ∧ i ≤ ds.length ∧ St' i σ2 H2, ⟨ds.length, by simp, Nat.zero_le _, ρ, F, r1, k⟩, ?_⟩
  rintro i m σ2 H2 ⟨rfl, hi, ρ2, F2, r2, k2⟩
  -- what was told of at the start is told of now
  obtain ⟨F3, s23, s13, r3⟩ : ∃ F3, Same F2 F3 ∧ Same F F3 ∧ Rl K B1 σ2 H2 ρ2 F3 := by
    have sFH : Same F H2 := sF1.trans r2.bh
    refine ⟨both F2 F, both_l, both_r r2.fh sFH, both_in r2.fh sFH, r2.bh, fun a o u e1 e2 => ?_, r2.len, fun j d e => ?_, fun j t d e => ?_, r2.dj, r2.pn⟩
    · rcases both_cases e2 with z | z
      · exact r2.zf _ _ _ e1 z
      · exact ⟨_, sF2 _ _ z⟩
    · obtain ⟨v, q1, q2⟩ := r2.fz j d e
      exact ⟨v, q1, q2.same both_l⟩
    · obtain ⟨p, q1, q2, q3, q4⟩ := r2.ow j _ d e
      exact ⟨p, q1, both_none q2 (sF1.free q3), q3, q4.mono both_l fun _ h => h⟩
  by_cases hlt : i < ds.length
  · refine .inr ⟨y.go i H2 hlt (s13.trans r3.fh), St' (i + 1), fun σ' H' p' => ⟨ds.length - (i + 1), by omega, rfl, hlt, p'⟩, fun x H3 yx => ?_⟩
    obtain ⟨F4, g4, dx⟩ := y.yld i ds[i] F3 H2 x H3 (List.getElem?_eq_getElem hlt) s13 r3.fh yx
    rw [List.drop_eq_getElem_cons hlt] at k2
    unfold forL at k2
    cases e1 : gt ds[i] with
    | exc x => rw [e1] at k2; exact k2.elim
    | bad => rw [e1] at k2; exact k2.elim
    | ok as =>
      rw [e1] at k2
      have k2 : So K xm B Dn (loopO (fun ρ' => forL gt g l (ds.drop (i + 1)) (clr l ρ')) (g (setS ρ2 as))) := k2
      have r4 := r3.grow g4
      refine ⟨F4, ds[i], as, r4.fh, dx, e1, fun bs hb => ⟨B1, setS ρ2 as, F4, r4.setAll hb, ?_⟩⟩
      cases e2 : g (setS ρ2 as) with
      | nx ρ' => rw [e2] at k2; exact fun σ H F r => ⟨_, F, r.clr l, k2⟩
      | ct ρ' => rw [e2] at k2; exact fun σ H F r => ⟨_, F, r.clr l, k2⟩
      | bk ρ' => rw [e2] at k2; exact fun σ H F r => k2 σ H F (r.unbase sB)
      | rt d ρ' => rw [e2] at k2; exact fun v σ H F r => k2 v σ H F (r.unbase sB)
      | ro d ρ' => rw [e2] at k2; exact fun p σ H F r f b => k2 p σ H F (r.unbase sB) f (sB.b.free b)
      | ex x ρ' =>
        rw [e2] at k2
        exact So.weak (o := .ex x ρ') (by cases xm with
          | none => exact k2
          | some m => exact k2) sB
      | bad => rw [e2] at k2; exact k2
  · have e : i = ds.length := by omega
    subst e
    rw [List.drop_length] at k2
    exact .inl ⟨y.stop H2 (s13.trans r3.fh), k2 _ _ _ (r2.unbase sB)⟩
theorem fs_for {tg iter : Expr} {body : List Stmt} {L : List Nat} {it : VEnv → Res (List D)} {gt : Tgt} {g : Env → Out} {pos : Pos} (l : List Nat) (hp : PassesOwn (model X.prog X.w) X.A X.env X.xe) (hi : FI K xm X tg iter it) (hg : FG K X tg gt) (hb : FSs K xm X body g) (hc : X.calm = true := by rfl)
    (hs : ∀ x, foldedSetIterable iter X.env x = pure x := by intro _; rfl) : FS K xm X (.For tg iter body [] pos) (sFor L it gt g l) :=
  PS.to (ps_for hp hc hi hg hb hs) fun Dn σ H ⟨B, ρ, F, r, k⟩ => by
    refine ⟨_, _, r.lend_fh L, r.view L, ?_⟩
    unfold sFor eAt at k
    cases e : it (view L ρ) with
    | ok ds =>
      rw [e] at k
      intro J F' H' g y
      exact for_loop rfl (r.shutted g) y k
    | exc x => rw [e] at k; exact exc_at r k
    | bad => rw [e] at k; exact k.elim
end
end Du

namespace Du
open PySem PySem.Spec PyProof.Rows L2
section
variable {K : PySem.W.Frag} {xm : XMo} {X : Cx} {B : Bs} {F H : Hp} {σ : St} {ρ : Env} {Dn : Ends}
/-! ### expressions that make a new list, a new dict: the def's own -/
def PoW (K : PySem.W.Frag) (xm : XMo) (σ : St) (F H : Hp) (r : Res D) (Q : VK) : Prop := match r with
  | .ok d => ∀ p F' H', Gr F H F' H' → H p = none → F' p = none → Ow K F' H' p d → Q (.ref p) H'
  | .exc x => Xw K xm σ F H x
  | .bad => False
def tW (K : PySem.W.Frag) (xm : XMo) (f : VEnv → Res D) : TE := fun σ H Q => ∃ F ρ, Same F H ∧ Vw K F σ ρ ∧ PoW K xm σ F H (f ρ) Q
abbrev FW' (K : PySem.W.Frag) (xm : XMo) (X : Cx) (e : Expr) (f : VEnv → Res D) : Prop := PE X e (tW K xm f)
theorem PoW.mono {F1 H1 : Hp} {r : Res D} {Q : VK} (h : PoW K xm σ F H r Q) (g : Gr F H F1 H1) : PoW K xm σ F1 H1 r Q := by
  cases r with
  | ok a => exact fun p F' H' g' hp => h p F' H' (g.trans g') (g.hh.free hp)
  | exc x => exact Xw.mono h g
  | bad => exact h
theorem PoW.seq {α ω : Type} {R : Hp → ω → α → Prop} {r : Res α} {f : α → Res D} {Q : VK} {W : ω → Hp → Prop} (k : PoW K xm σ F H (r.bind f) Q) (n : ∀ a w F1 H1, Gr F H F1 H1 → R F1 w a → PoW K xm σ F1 H1 (f a) Q → W w H1) : Po R K xm σ F H r W := by
  cases r with
  | ok a => exact fun w F1 H1 g d => n a w F1 H1 g d (PoW.mono k g)
  | exc x => exact k
  | bad => exact k
theorem PoW.ite {b : Bool} {r : Res D} {Q : VK} (k : PoW K xm σ F H (if b = true then r else .bad) Q) : b = true ∧ PoW K xm σ F H r Q := by
  cases b with
  | true => exact ⟨rfl, by rwa [if_pos rfl] at k⟩
  | false =>
    rw [if_neg Bool.false_ne_true] at k
    exact k.elim
theorem PoW.new {d : D} {Q : VK} {p : Addr} {o : HO} (k : PoW K xm σ F H (.ok d) Q) (s : Same F H) (hp : H p = none) (h : Ow K F (upd H p o) p d) : Q (.ref p) (upd H p o) := k p F _ (.hid s hp) hp (s.free hp) h
theorem fw_lst {es : List Expr} {pos : Pos} {f : VEnv → Res (List D)} (h : FA K xm X es f) : FW' K xm X (.List es pos) (eLst f) :=
  PE.to (pe_lst h) fun σ H Q ⟨F, ρ, sF, vw, k⟩ => ⟨F, ρ, sF, vw, PoW.seq k fun a xs F1 H1 g1 d1 k1 => by
    obtain ⟨f, k1⟩ := PoW.ite k1
    exact ⟨by rw [d1.length]; exact Nat.le_of_lt (fit_line f), fun p hp => k1.new g1.fh hp ⟨xs, upd_same, d1⟩⟩⟩
theorem fw_dct0 {pos : Pos} : FW' K xm X (.Dict [] [] pos) eDct0 := PE.to pe_dnewK fun σ H Q ⟨F, ρ, sF, vw, k⟩ p hp => PoW.new k sF hp ⟨[], upd_same, .nil, rfl⟩
theorem fw_comp {elt tg iter : Expr} {ifs : List Expr} {scope : Scope} {pos : Pos} (own : List (Str × Nat)) {it : VEnv → Res (List D)} {g : Tgt} {c : VEnv → Res Bool} {f : VEnv → Res D} (hN : X.N.Nodup) (hi : FI K xm X tg iter it)
    (hg : ∀ (s : Shared) (H : Hp) (C : Addr) (cl : List (Str × Addr)) (fp : List Addr), FG K (X.blk s H scope (compEnvC scope cl C X.env) fp) tg g) (ht : ∀ (s : Shared) (H : Hp) (C : Addr) (cl : List (Str × Addr)) (fp : List Addr), FTs K (X.blk s H scope (compEnvC scope cl C X.env) fp) ifs c)
    (he : ∀ (s : Shared) (H : Hp) (C : Addr) (cl : List (Str × Addr)) (fp : List Addr), FE K none (X.blk s H scope (compEnvC scope cl C X.env) fp) elt f)
    (ok : BlkOk X.N X.env.scope scope own) (hc : X.calm = true := by rfl) (hs : ∀ x, foldedSetIterable iter X.env x = pure x := by intro _; rfl) :
    FW' K xm X (.ListComp elt [⟨tg, iter, ifs, 0⟩] scope pos) (eComp (own.map (·.2)) it g c f) :=
  PE.to (pe_lc hc hN hi ok hg ht he hs) fun σ H Q ⟨F, ρ, sF, vw, k⟩ => ⟨F, ρ, sF, vw, PoW.seq k fun ds J F1 H1 g1 y k1 p hp => by
    obtain ⟨hz, k2⟩ := PoW.ite k1
    cases e : compL g c f (wipeD ρ (own.map (·.2))) (own.map (·.2)) ds with
    | exc x => rw [e] at k2; exact k2.elim
    | bad => rw [e] at k2; exact k2.elim
    | ok es =>
      rw [e] at k2
      exact comp_loop g1.fh (vw.same g1.ff) y hp hz e fun F' H' acc g fp ep dd => k2 p F' H' g hp fp ⟨acc, ep, dd⟩⟩
def dCat : D → D → Res D
  | .lst a, .lst b => if fit (a.length + b.length) = true then .ok (.lst (a ++ b)) else .bad
  | _, _ => .bad
theorem fw_cat {a b : Expr} {pos : Pos} {fa fb : VEnv → Res D} (ha : FE K xm X a fa) (hb : FE K xm X b fb) : FW' K xm X (.BinOp a .Add b pos) (eOp dCat fa fb) :=
  PE.to (pe_op op_cat ha hb) fun σ H Q ⟨F, ρ, sF, vw, k⟩ => ⟨F, ρ, sF, vw, PoW.seq k fun a x F1 H1 g1 d1 k1 => ⟨F1, ρ, g1.fh, vw.same g1.ff, PoW.seq k1 fun b y F2 H2 g2 d2 k2 => by
    unfold dCat at k2
    split at k2
    · obtain ⟨f, k2⟩ := PoW.ite k2
      obtain ⟨p, xs, rfl, h1, h2⟩ := Dt.lstE (d1.same g2.ff)
      obtain ⟨q, ys, rfl, h3, h4⟩ := d2.lstE
      exact ⟨_, _, _, _, rfl, rfl, g2.fh _ _ h1, g2.fh _ _ h3, by rw [h2.length, h4.length]; exact Nat.le_of_lt (fit_line f), fun r hr => k2.new g2.fh hr ⟨_, upd_same, h2.app h4⟩⟩
    · exact k2.elim⟩⟩
theorem fw_rep {es : List Expr} {b : Expr} {p1 pos : Pos} {fa : VEnv → Res (List D)} {fb : VEnv → Res D} (ha : FA K xm X es fa) (hb : FE K xm X b fb) : FW' K xm X (.BinOp (.List es p1) .Mult b pos) (eRep fa fb) :=
  PE.to (pe_op op_rep (pe_lst ha) hb) fun σ H Q ⟨F, ρ, sF, vw, k⟩ => ⟨F, ρ, sF, vw, PoW.seq k fun a xs F1 H1 g1 d1 k1 => by
    obtain ⟨f, k1⟩ := PoW.ite k1
    refine ⟨by rw [d1.length]; exact Nat.le_of_lt (fit_line f), fun p hp => ?_⟩
    have g2 := Gr.new (o := .lst xs) g1.fh hp
    refine ⟨_, ρ, g2.fh, vw.same (g1.ff.trans g2.ff), PoW.seq (k1.mono g2) fun b y F2 H2 g3 d3 k2 => ?_⟩
    split at k2
    · rename_i b
      by_cases hh : -1000000 ≤ b ∧ b ≤ 1000000 ∧ fit (a.length * b.toNat) = true
      · rw [if_pos hh] at k2
        obtain ⟨f0, f1, f2⟩ := hh
        rw [d3.intE]
        have e1 := g3.fh _ _ (g3.ff _ _ (upd_same (H := F1) (a := p) (o := .lst xs)))
        refine ⟨_, _, _, rfl, rfl, e1, by omega, by omega, by rw [d1.length]; exact Nat.le_of_lt (fit_line f2), fun r hr => ?_⟩
        exact k2.new g3.fh hr ⟨_, upd_same, (d1.same (g2.ff.trans g3.ff)).rep _⟩
      · rw [if_neg hh] at k2; exact k2.elim
    · exact k2.elim⟩
/-! ### x = e, e new -/
def immO : D → Bool
  | .lst ds => imms ds
  | .dct _ ds => imms (ds.map (·.2))
  | _ => false
def aftO (L : List Nat) (d : D) (ρ : Env) : Env := if immO d = true then ρ else shut L ρ
theorem Ow.tups {F' : Hp} {p : Addr} {d : D} (s : Tups F F') (i : immO d = true) (h : Ow K F H p d) : Ow K F' H p d := by
  unfold Ow at h ⊢
  split at h
  · obtain ⟨xs, h1, h2⟩ := h
    exact ⟨xs, h1, DtAll.tups s i h2⟩
  · obtain ⟨kvs, h1, h2, h3⟩ := h
    exact ⟨kvs, h1, DtAll.tups s i h2, h3⟩
  · obtain ⟨kvs, h1, h2, h3⟩ := h
    exact ⟨kvs, h1, DtAll.tups s i h2, h3⟩
  · exact h.elim
theorem Rl.aftO (r : Rl K B σ H ρ F) {L : List Nat} {F' H' : Hp} (g : Gr (lend σ ρ L F H) H F' H') {p : Addr} {d : D} (fp : F' p = none) (h : Ow K F' H' p d) : ∃ F2, Rl K B σ H' (aftO L d ρ) F2 ∧ Ow K F2 H' p d ∧ F2 p = none := by
  unfold Du.aftO
  by_cases i : immO d = true
  · rw [if_pos i]
    refine ⟨_, r.back g, Ow.tups (r.back_dts g) i h, ?_⟩
    unfold unlend
    split
    · rfl
    · exact fp
  · rw [if_neg i]
    exact ⟨_, r.shutted g, h, fp⟩
theorem aftO_own {L : List Nat} {d e : D} {t : Bool} {i : Nat} (h : (aftO L d ρ)[i]? = some (some (.own t e))) : ρ[i]? = some (some (.own t e)) := by
  unfold aftO at h
  split at h
  · exact h
  · rw [shut_get] at h
    obtain ⟨s, h1, h2⟩ := Option.map_eq_some_iff.mp h
    cases s with
    | none => cases h2
    | some s =>
      cases s with
      | frz e => cases h2
      | own t e =>
        unfold shutS at h2
        dsimp only at h2
        by_cases c : L.contains i = true
        · rw [if_pos c] at h2; cases h2
        · rw [if_neg c] at h2
          cases h2
          exact h1
theorem tW.at {L : List Nat} {f : VEnv → Res D} {k : D → Out} {Q : VK} (r : Rl K B σ H ρ F) (h : So K xm B Dn (eAt L f ρ k)) (n : ∀ d p H' F', H p = none → Rl K B σ H' (aftO L d ρ) F' → Ow K F' H' p d → F' p = none → So K xm B Dn (k d) → Q (.ref p) H') : tW K xm f σ H Q := by
  refine ⟨_, _, r.lend_fh L, r.view L, ?_⟩
  unfold eAt at h
  cases e : f (view L ρ) with
  | ok d =>
    rw [e] at h
    intro p F' H' g hp fp ow
    obtain ⟨F2, r2, h2, h3⟩ := r.aftO g fp ow
    exact n d p H' F2 hp r2 h2 h3 h
  | exc x =>
    rw [e] at h
    exact exc_at r h
  | bad => rw [e] at h; exact h.elim
def sOwn (i : Nat) (L : List Nat) (f : VEnv → Res D) : Env → Out := fun ρ => eAt L f ρ fun d => .nx ((aftO L d ρ).set i (some (.own false d)))
theorem own_set {L : List Nat} {d : D} {p : Addr} {F' H' : Hp} {i : Nat} (r0 : Rl K B σ H ρ F) (hp : H p = none) (r : Rl K B σ H' (aftO L d ρ) F') (ow : Ow K F' H' p d) (fp : F' p = none) : Rl K B (σ.set i (some (.ref p))) H' ((aftO L d ρ).set i (some (.own false d))) F' := by
  refine r.setOwn ow fp (r0.bh.free hp) fun j t e h1 h2 => ?_
  have h3 := aftO_own h1
  obtain ⟨p', q1, q2, q3, q4⟩ := r0.ow j _ e h3
  rw [h2] at q1
  cases q1
  obtain ⟨o, ho⟩ := q4.some
  rw [hp] at ho
  cases ho
theorem fs_own {x : Str} {e : Expr} {L : List Nat} {f : VEnv → Res D} {p1 pos : Pos} (i : Nat) (he : FW' K xm X e f) (hN : X.N.Nodup) (hi : X.N[i]? = some x := by rfl) (hx : Loc X.env.scope x := by first | exact Or.inl rfl | exact Or.inr rfl) (hf : X.fn x = true ∨ X.env.scope.names.lookup x = some .local := by first | exact .inl rfl | exact .inr rfl)
    (hs : swapsWithSole [.Name x p1] e pos.line X.env = pure false := by rfl) (hw : swappedStores [.Name x p1] e X.env = pure none := by rfl) (h1 : (assignEach [.Name x p1] X.env).map (·.2) = [assign (.Name x p1) X.env] := by rfl) : FS K xm X (.Assign [.Name x p1] e pos) (sOwn i L f) :=
  PS.to (ps_asg he (pg_name hN hi hx hf) hs hw h1) fun Dn σ H ⟨B, ρ, F, r, k⟩ => tW.at r k fun d p H' F' hp r' ow fp k' => k' _ _ _ (own_set r hp r' ow fp)
/-- return e, e new -/
def sRetO (L : List Nat) (f : VEnv → Res D) : Env → Out := fun ρ => eAt L f ρ fun d => .ro d (aftO L d ρ)
theorem fs_retO {e : Expr} {L : List Nat} {f : VEnv → Res D} {pos : Pos} (he : FW' K xm X e f) : FS K xm X (.Return (some e) pos) (sRetO L f) :=
  PS.to (ps_ret he) fun Dn σ H ⟨B, ρ, F, r, k⟩ => tW.at r k fun d p H' F' hp r' ow fp k' => k' p _ _ _ r' fp (r.bh.free hp) ow
/-- return x, x an own one -/
def sRetS (i : Nat) : Env → Out := fun ρ => match ρ[i]? with
  | some (some (.own _ d)) => .ro d (ρ.set i none)
  | _ => .bad
theorem fs_retS {x : Str} {p1 pos : Pos} (i : Nat) (hN : X.N[i]? = some x := by rfl) (hv : Vis X.env.scope x := by first | exact Or.inl rfl | exact Or.inr (Or.inl rfl) | exact Or.inr (Or.inr rfl)) (hd : (x == ("__debug__" : Str)) = false := by decide)
    (hcd : (x == ("__classdict__" : Str)) = false := by decide) : FS K xm X (.Return (some (.Name x p1)) pos) (sRetS i) :=
  PS.to (ps_ret (pv i hN hv hd hcd)) fun Dn σ H ⟨B, ρ, F, r, k⟩ => by
    unfold sRetS at k
    split at k
    · rename_i d e
      obtain ⟨p, q1, q2, q3, q4⟩ := r.ow i _ d e
      exact ⟨.ref p, q1, k p _ _ _ (r.drop i) q2 q3 q4⟩
    · exact k.elim
/-- x = [e for ..], on one line, x no cell -/
theorem fs_ownLc {y : Str} {py : Pos} {elt tg iter : Expr} {ifs : List Expr} {scope : Scope} {pos spos : Pos} {L : List Nat} {it : VEnv → Res (List D)} {g : Tgt} {c : VEnv → Res Bool} {f : VEnv → Res D} (i : Nat) (own : List (Str × Nat)) (hN : X.N.Nodup) (hi : FI K xm X tg iter it)
    (hg : ∀ (s : Shared) (H : Hp) (C : Addr) (cl : List (Str × Addr)) (fp : List Addr), FG K (X.blk s H scope (compEnvC scope cl C X.env) fp) tg g) (ht : ∀ (s : Shared) (H : Hp) (C : Addr) (cl : List (Str × Addr)) (fp : List Addr), FTs K (X.blk s H scope (compEnvC scope cl C X.env) fp) ifs c)
    (he : ∀ (s : Shared) (H : Hp) (C : Addr) (cl : List (Str × Addr)) (fp : List Addr), FE K none (X.blk s H scope (compEnvC scope cl C X.env) fp) elt f)
    (ok : BlkOk X.N X.env.scope scope own) (hsw : swapsWith (.ListComp elt [⟨tg, iter, ifs, 0⟩] scope pos) (some (.Name y py)) spos.line X.env = pure true) (hy : X.N[i]? = some y := by rfl) (hyl : X.env.scope.names.lookup y = some .local := by rfl) (hc : X.calm = true := by rfl) (hs : ∀ x, foldedSetIterable iter X.env x = pure x := by intro _; rfl) :
    FS K xm X (.Assign [.Name y py] (.ListComp elt [⟨tg, iter, ifs, 0⟩] scope pos) spos) (sOwn i L (eComp (own.map (·.2)) it g c f)) :=
  PS.to (ps_setLc (i := i) hc hN hy hyl hsw hi ok hg ht he hs) fun Dn σ H ⟨B, ρ, F, r, k⟩ => by
    have m : ∀ σ H Q, tW K xm (eComp (own.map (·.2)) it g c f) σ H Q → tLc (iF K xm it) (gF K g) (bF K none c) (tF K none f) (own.map (·.2)) σ H Q := fun σ H Q ⟨F, ρ, sF, vw, k⟩ => ⟨F, ρ, sF, vw, PoW.seq k fun ds J F1 H1 g1 y k1 p hp => by
      obtain ⟨hz, k2⟩ := PoW.ite k1
      cases e : compL g c f (wipeD ρ (own.map (·.2))) (own.map (·.2)) ds with
      | exc x => rw [e] at k2; exact k2.elim
      | bad => rw [e] at k2; exact k2.elim
      | ok es =>
        rw [e] at k2
        exact comp_loop g1.fh (vw.same g1.ff) y hp hz e fun F' H' acc g fp ep dd => k2 p F' H' g hp fp ⟨acc, ep, dd⟩⟩
    exact m _ _ _ (tW.at r k fun d p H' F' hp r' ow fp k' => k' _ _ _ (own_set r hp r' ow fp))
/-! ### methods that change an own list -/
def ownL (ρ : Env) (i : Nat) : Option (Bool × List D) := match ρ[i]? with
  | some (some (.own t (.lst ds))) => some (t, ds)
  | _ => none
theorem ownL_of {ρ : Env} {i : Nat} {t : Bool} {ds : List D} (h : ownL ρ i = some (t, ds)) : ρ[i]? = some (some (.own t (.lst ds))) := by
  unfold ownL at h
  split at h
  · rename_i e
    cases h
    exact e
  · cases h
theorem aft_own {L : List Nat} {d e : D} {t : Bool} {i : Nat} (h : (aft L d ρ)[i]? = some (some (.own t e))) : ρ[i]? = some (some (.own t e)) := by
  unfold aft at h
  split at h
  · exact h
  · rw [shut_get] at h
    obtain ⟨s, h1, h2⟩ := Option.map_eq_some_iff.mp h
    cases s with
    | none => cases h2
    | some s =>
      cases s with
      | frz e => cases h2
      | own t e =>
        unfold shutS at h2
        dsimp only at h2
        by_cases c : L.contains i = true
        · rw [if_pos c] at h2; cases h2
        · rw [if_neg c] at h2
          cases h2
          exact h1
theorem aftL_own {L : List Nat} {d : List D} {e : D} {t : Bool} {i : Nat} (h : (aftL L d ρ)[i]? = some (some (.own t e))) : ρ[i]? = some (some (.own t e)) := by
  unfold aftL at h
  split at h
  · exact h
  · rw [shut_get] at h
    obtain ⟨s, h1, h2⟩ := Option.map_eq_some_iff.mp h
    cases s with
    | none => cases h2
    | some s =>
      cases s with
      | frz e => cases h2
      | own t e =>
        unfold shutS at h2
        dsimp only at h2
        by_cases c : L.contains i = true
        · rw [if_pos c] at h2; cases h2
        · rw [if_neg c] at h2
          cases h2
          exact h1
def oNx (o : Option Env) : Out := match o with
  | some ρ => .nx ρ
  | none => .bad
/-- the own list at slot i becomes f of it -/
def chg (ρ : Env) (i : Nat) (f : List D → Option (List D)) : Out := match ownL ρ i with
  | some (t, ds) => match f ds with
    | some es => .nx (ρ.set i (some (.own t (.lst es))))
    | none => .bad
  | none => .bad
def sApp (i : Nat) (L : List Nat) (f : VEnv → Res D) : Env → Out := fun ρ => eAt L f ρ fun d => chg (aft L d ρ) i fun ds => if fit ds.length = true then some (ds ++ [d]) else none
theorem So.chgE {i : Nat} {f : List D → Option (List D)} (k : So K xm B Dn (chg ρ i f)) : ∃ t ds es, ρ[i]? = some (some (.own t (.lst ds))) ∧ f ds = some es ∧ So K xm B Dn (.nx (ρ.set i (some (.own t (.lst es))))) := by
  unfold chg at k
  cases e : ownL ρ i with
  | none => rw [e] at k; exact k.elim
  | some td =>
    obtain ⟨t, ds⟩ := td
    rw [e] at k
    dsimp only at k
    cases e2 : f ds with
    | none => rw [e2] at k; exact k.elim
    | some es => rw [e2] at k; exact ⟨t, ds, es, ownL_of e, e2, k⟩
/-- the receiver is a list, whatever comes of its argument -/
theorem eAt_ok {α : Type} {L : List Nat} {f : VEnv → Res α} {k : α → Out} (h : So K xm B Dn (eAt L f ρ k)) : (∃ a, f (view L ρ) = .ok a ∧ So K xm B Dn (k a)) ∨ ∃ x, f (view L ρ) = .exc x := by
  unfold eAt at h
  cases e : f (view L ρ) with
  | ok a => rw [e] at h; exact .inl ⟨a, rfl, h⟩
  | exc x => exact .inr ⟨x, rfl⟩
  | bad => rw [e] at h; exact h.elim
/-- an own list at slot i, else nothing -/
def need (i : Nat) (g : Env → Out) : Env → Out := fun ρ => match ownL ρ i with
  | some _ => g ρ
  | none => .bad
theorem So.needE {i : Nat} {g : Env → Out} (k : So K xm B Dn (need i g ρ)) : (∃ t ds, ρ[i]? = some (some (.own t (.lst ds)))) ∧ So K xm B Dn (g ρ) := by
  unfold need at k
  cases e : ownL ρ i with
  | none => rw [e] at k; exact k.elim
  | some td => rw [e] at k; exact ⟨⟨td.1, td.2, ownL_of e⟩, k⟩
theorem Rl.ownAt (r : Rl K B σ H ρ F) {i : Nat} {t : Bool} {ds : List D} (h : ρ[i]? = some (some (.own t (.lst ds)))) : ∃ p xs, σ[i]? = some (some (.ref p)) ∧ H p = some (.lst xs) ∧ DtAll K F xs ds ∧ F p = none := by
  obtain ⟨p, q1, q2, q3, xs, q4, q5⟩ := r.ow i _ _ h
  exact ⟨p, xs, q1, q4, q5, q2⟩
theorem fs_app {x : Str} {e : Expr} {L : List Nat} {f : VEnv → Res D} {p1 apos cpos pos : Pos} (i : Nat) (he : FE K xm X e f) (hN : X.N[i]? = some x := by rfl) (hv : Vis X.env.scope x := by first | exact Or.inl rfl | exact Or.inr (Or.inl rfl) | exact Or.inr (Or.inr rfl)) (hd : (x == ("__debug__" : Str)) = false := by decide)
    (hcd : (x == ("__classdict__" : Str)) = false := by decide) (hbase : attributeBase (.Name x p1) "append" X.env (eval (.Name x p1) X.env) = eval (.Name x p1) X.env := by rfl)
    (hfew : ((backTo cpos (starEach [e] X.env)).all (fun x => !x.1) && (backToKw cpos (keywordEach [] X.env)).all (fun x => x.1.isSome) && decide (([e] : List Expr).length + ([] : List Keyword).length + (if ([] : List Keyword).isEmpty then 0 else 1) < 30)) = true := by rfl)
    (hline : (apos.endLine == cpos.line) = true := by rfl) (hs : starEach [e] X.env = (false, eval e X.env) :: starEach [] X.env := by rfl) (hplain : (backTo cpos (starEach [] X.env)).any (·.1) = false := by rfl)
    (hsw : swapsWith (.Call (.Attribute (.Name x p1) "append" apos) [e] [] cpos) none pos.line X.env = pure false := by rfl) : FS K xm X (.Expr (.Call (.Attribute (.Name x p1) "append" apos) [e] [] cpos) pos) (need i (sApp i L f)) :=
  PS.to (ps_expr (pe_bm PySem.F.plainAttrs_list PySem.F.slot_list_append PySem.F.type_list_append mt_append (pv i hN hv hd hcd) (pa_cons he pa_nil hs) hbase hfew hline hs hplain) hsw) fun Dn σ H ⟨B, ρ, F, r, k⟩ => by
    obtain ⟨⟨t, ds, hi⟩, k⟩ := k.needE
    obtain ⟨p, xs, q1, q2, q3, q4⟩ := r.ownAt hi
    refine ⟨.ref p, q1, .inl ⟨rfl, _, SqL.of q2⟩, tF.at r k fun d v H' F' _ r' dv ff hh k' => ?_⟩
    obtain ⟨t', ds', es, h1, h2, k2⟩ := k'.chgE
    obtain ⟨p', xs', w1, w2, w3, w4⟩ := r'.ownAt h1
    rw [q1] at w1
    cases w1
    by_cases f : fit ds'.length = true
    · rw [if_pos f] at h2
      cases h2
      refine ⟨p, xs', v, rfl, rfl, w2, by rw [w3.length]; exact fit_line f, k2 _ _ _ (r'.write h1 q1 ⟨_, upd_same, w3.app (.cons dv .nil)⟩)⟩
    · rw [if_neg f] at h2
      cases h2
end
end Du

namespace Du
open PySem PySem.Spec PyProof.Rows L2
section
variable {K : PySem.W.Frag} {xm : XMo} {X : Cx} {B : Bs} {F H : Hp} {σ : St} {ρ : Env} {Dn : Ends}
/-! ### x.extend(e) -/
def dLst : D → Res (List D)
  | .lst ds => .ok ds
  | _ => .bad
def eLs (f : VEnv → Res D) : VEnv → Res (List D) := fun ρ => (f ρ).bind dLst
/-- a list at a statement, taken apart -/
theorem tF.atL {L : List Nat} {f : VEnv → Res D} {k : List D → Out} {Q : VK} (r : Rl K B σ H ρ F) (h : So K xm B Dn (eAt L (eLs f) ρ k)) (n : ∀ ds p xs H' F', H' p = some (.lst xs) → Rl K B σ H' (aftL L ds ρ) F' → DtAll K F' xs ds → Same F F' → So K xm B Dn (k ds) → Q (.ref p) H') : tF K xm f σ H Q := by
  refine ⟨_, _, r.lend_fh L, r.view L, ?_⟩
  unfold eAt eLs at h
  cases e : f (view L ρ) with
  | ok d =>
    rw [e] at h
    cases d with
    | lst ds =>
      intro v F' H' g hd
      obtain ⟨p, xs, rfl, h1, h2⟩ := hd.lstE
      obtain ⟨F2, r2, h3, h4, _⟩ := r.aftL g h2
      exact n ds p xs H' F2 (g.fh _ _ h1) r2 h3 h4 h
    | _ => exact h.elim
  | exc x =>
    rw [e] at h
    exact exc_at r h
  | bad => rw [e] at h; exact h.elim
def sExt (i : Nat) (L : List Nat) (f : VEnv → Res D) : Env → Out := fun ρ => eAt L (eLs f) ρ fun es => chg (aftL L es ρ) i fun ds => if fit (ds.length + es.length) = true then some (ds ++ es) else none
theorem fs_ext {x : Str} {e : Expr} {L : List Nat} {f : VEnv → Res D} {p1 apos cpos pos : Pos} (i : Nat) (he : FE K xm X e f) (hN : X.N[i]? = some x := by rfl) (hv : Vis X.env.scope x := by first | exact Or.inl rfl | exact Or.inr (Or.inl rfl) | exact Or.inr (Or.inr rfl)) (hd : (x == ("__debug__" : Str)) = false := by decide)
    (hcd : (x == ("__classdict__" : Str)) = false := by decide) (hbase : attributeBase (.Name x p1) "extend" X.env (eval (.Name x p1) X.env) = eval (.Name x p1) X.env := by rfl)
    (hfew : ((backTo cpos (starEach [e] X.env)).all (fun x => !x.1) && (backToKw cpos (keywordEach [] X.env)).all (fun x => x.1.isSome) && decide (([e] : List Expr).length + ([] : List Keyword).length + (if ([] : List Keyword).isEmpty then 0 else 1) < 30)) = true := by rfl)
    (hline : (apos.endLine == cpos.line) = true := by rfl) (hs : starEach [e] X.env = (false, eval e X.env) :: starEach [] X.env := by rfl) (hplain : (backTo cpos (starEach [] X.env)).any (·.1) = false := by rfl)
    (hsw : swapsWith (.Call (.Attribute (.Name x p1) "extend" apos) [e] [] cpos) none pos.line X.env = pure false := by rfl) : FS K xm X (.Expr (.Call (.Attribute (.Name x p1) "extend" apos) [e] [] cpos) pos) (need i (sExt i L f)) :=
  PS.to (ps_expr (pe_bm PySem.F.plainAttrs_list PySem.F.slot_list_extend PySem.F.type_list_extend mt_extend (pv i hN hv hd hcd) (pa_cons he pa_nil hs) hbase hfew hline hs hplain) hsw) fun Dn σ H ⟨B, ρ, F, r, k⟩ => by
    obtain ⟨⟨t, ds, hi⟩, k⟩ := k.needE
    obtain ⟨p, xs, q1, q2, q3, q4⟩ := r.ownAt hi
    refine ⟨.ref p, q1, .inl ⟨rfl, _, SqL.of q2⟩, tF.atL r k fun es b zs H' F' hb r' dv ff k' => ?_⟩
    obtain ⟨t', ds', es', h1, h2, k2⟩ := k'.chgE
    obtain ⟨p', xs', w1, w2, w3, w4⟩ := r'.ownAt h1
    rw [q1] at w1
    cases w1
    by_cases f : fit (ds'.length + es.length) = true
    · rw [if_pos f] at h2
      cases h2
      exact ⟨p, b, xs', zs, rfl, rfl, w2, hb, by rw [w3.length, dv.length]; exact Nat.le_of_lt (fit_line f), k2 _ _ _ (r'.write h1 q1 ⟨_, upd_same, w3.app dv⟩)⟩
    · rw [if_neg f] at h2
      cases h2
/-! ### x.clear(), y = x.pop() -/
def sClr (i : Nat) : Env → Out := fun ρ => chg ρ i fun _ => some []
theorem fs_clr {x : Str} {p1 apos cpos pos : Pos} (i : Nat) (hN : X.N[i]? = some x := by rfl) (hv : Vis X.env.scope x := by first | exact Or.inl rfl | exact Or.inr (Or.inl rfl) | exact Or.inr (Or.inr rfl)) (hd : (x == ("__debug__" : Str)) = false := by decide)
    (hcd : (x == ("__classdict__" : Str)) = false := by decide) (hbase : attributeBase (.Name x p1) "clear" X.env (eval (.Name x p1) X.env) = eval (.Name x p1) X.env := by rfl) (hline : (apos.endLine == cpos.line) = true := by rfl)
    (hsw : swapsWith (.Call (.Attribute (.Name x p1) "clear" apos) [] [] cpos) none pos.line X.env = pure false := by rfl) : FS K xm X (.Expr (.Call (.Attribute (.Name x p1) "clear" apos) [] [] cpos) pos) (sClr i) :=
  PS.to (ps_expr (pe_bm0 PySem.F.plainAttrs_list PySem.F.slot_list_clear PySem.F.type_list_clear mt_clear (pv i hN hv hd hcd) hbase hline) hsw) fun Dn σ H ⟨B, ρ, F, r, k⟩ => by
    obtain ⟨t', ds', es', h1, h2, k2⟩ := k.chgE
    obtain ⟨p', xs', w1, w2, w3, w4⟩ := r.ownAt h1
    cases h2
    exact ⟨.ref p', w1, .inl ⟨rfl, _, SqL.of w2⟩, p', xs', rfl, rfl, w2, k2 _ _ _ (r.write h1 w1 ⟨_, upd_same, .nil⟩)⟩
def sPop (i : Nat) (tg : Tgt) : Env → Out := fun ρ => match ownL ρ i with
  | some (t, ds) => match ds[ds.length - 1]? with
    | some d => match tg d with
      | .ok as => .nx (setS (ρ.set i (some (.own t (.lst ds.dropLast)))) as)
      | _ => .bad
    | none => .bad
  | none => .bad
theorem DtAll.dropLast {F : Hp} {vs : List V} {ds : List D} (h : DtAll K F vs ds) : DtAll K F vs.dropLast ds.dropLast := by
  rw [List.dropLast_eq_take, List.dropLast_eq_take, h.length]
  exact h.take _
theorem fs_pop {x : Str} {tg : Expr} {g : Tgt} {p1 apos cpos pos : Pos} (i : Nat) (hg : FG K X tg g) (hN : X.N[i]? = some x := by rfl) (hv : Vis X.env.scope x := by first | exact Or.inl rfl | exact Or.inr (Or.inl rfl) | exact Or.inr (Or.inr rfl)) (hd : (x == ("__debug__" : Str)) = false := by decide)
    (hcd : (x == ("__classdict__" : Str)) = false := by decide) (hbase : attributeBase (.Name x p1) "pop" X.env (eval (.Name x p1) X.env) = eval (.Name x p1) X.env := by rfl) (hline : (apos.endLine == cpos.line) = true := by rfl)
    (hs : swapsWithSole [tg] (.Call (.Attribute (.Name x p1) "pop" apos) [] [] cpos) pos.line X.env = pure false := by rfl) (hw : swappedStores [tg] (.Call (.Attribute (.Name x p1) "pop" apos) [] [] cpos) X.env = pure none := by rfl)
    (h1 : (assignEach [tg] X.env).map (·.2) = [assign tg X.env] := by rfl) : FS K xm X (.Assign [tg] (.Call (.Attribute (.Name x p1) "pop" apos) [] [] cpos) pos) (sPop i g) :=
  PS.to (ps_asg (pe_bm0 PySem.F.plainAttrs_list PySem.F.slot_list_pop PySem.F.type_list_pop mt_pop (pv i hN hv hd hcd) hbase hline) hg hs hw h1) fun Dn σ H ⟨B, ρ, F, r, k⟩ => by
    unfold sPop at k
    cases e : ownL ρ i with
    | none => rw [e] at k; exact k.elim
    | some td =>
      obtain ⟨t, ds⟩ := td
      rw [e] at k
      dsimp only at k
      cases e2 : ds[ds.length - 1]? with
      | none => rw [e2] at k; exact k.elim
      | some d =>
        rw [e2] at k
        dsimp only at k
        cases e3 : g d with
        | exc x => rw [e3] at k; exact k.elim
        | bad => rw [e3] at k; exact k.elim
        | ok as =>
          rw [e3] at k
          have hi := ownL_of e
          obtain ⟨p, xs, w1, w2, w3, w4⟩ := r.ownAt hi
          obtain ⟨v, q1, q2⟩ := w3.at e2
          have r' := r.write hi w1 (o := .lst xs.dropLast) (d' := .lst ds.dropLast) ⟨_, upd_same, w3.dropLast⟩
          exact ⟨.ref p, w1, .inl ⟨rfl, _, SqL.of w2⟩, p, xs, v, rfl, rfl, w2, by rw [w3.length]; exact q1, F, d, as, r'.fh, q2, e3, fun bs hb => k _ _ _ (r'.setAll hb)⟩
/-! ### x.insert(i, e) -/
def sIns (i : Nat) (L : List Nat) (f : VEnv → Res (List D)) : Env → Out := fun ρ => eAt L f ρ fun as => match as with
  | [.int n, d] => chg (aftL L as ρ) i fun ds => if (fit ds.length && decide (0 ≤ n ∧ n ≤ ds.length)) = true then some (ds.take n.toNat ++ d :: ds.drop n.toNat) else none
  | _ => .bad
theorem aF.at {L : List Nat} {f : VEnv → Res (List D)} {k : List D → Out} {Q : List V → Hp → Prop} (r : Rl K B σ H ρ F) (h : So K xm B Dn (eAt L f ρ k)) (n : ∀ ds vs H' F', Rl K B σ H' (aftL L ds ρ) F' → DtAll K F' vs ds → Same F F' → So K xm B Dn (k ds) → Q vs H') : aF K xm f σ H Q := by
  refine ⟨_, _, r.lend_fh L, r.view L, ?_⟩
  unfold eAt at h
  cases e : f (view L ρ) with
  | ok d =>
    rw [e] at h
    intro v F' H' g hd
    obtain ⟨F2, r2, h2, h3, _⟩ := r.aftL g hd
    exact n d v H' F2 r2 h2 h3 h
  | exc x =>
    rw [e] at h
    exact exc_at r h
  | bad => rw [e] at h; exact h.elim
/-! ### a, b = e1, e2 -/
def sPar (i j : Nat) (L : List Nat) (f : VEnv → Res (List D)) : Env → Out := fun ρ => eAt L f ρ fun as => match as with
  | [a, b] => .nx (((aftL L as ρ).set i (some (.frz a))).set j (some (.frz b)))
  | _ => .bad
theorem fs_par {x y : Str} {a b : Expr} {L : List Nat} {f : VEnv → Res (List D)} {px py pt pos : Pos} {kt k2 pt2} (i j : Nat) (hN : X.N.Nodup) (ha : FA K xm X [a, b] f) (hi : X.N[i]? = some x := by rfl) (hj : X.N[j]? = some y := by rfl) (hij : i ≠ j := by decide) (hc : X.calm = true := by rfl)
    (hx : X.env.scope.names.lookup x = some .local := by rfl) (hy : X.env.scope.names.lookup y = some .local := by rfl) (hw : swappedStores [.Tuple [.Name x px, .Name y py] kt pt] (.Tuple [a, b] k2 pt2) X.env = pure (some [x, y]) := by rfl)
    (hs : swapsWithSole [.Tuple [.Name x px, .Name y py] kt pt] (.Tuple [a, b] k2 pt2) pos.line X.env = pure false := by rfl) : FS K xm X (.Assign [.Tuple [.Name x px, .Name y py] kt pt] (.Tuple [a, b] k2 pt2) pos) (sPar i j L f) :=
  PS.to (ps_par hc hN hi hj hij hx hy ha hw hs) fun Dn σ H ⟨B, ρ, F, r, k⟩ => aF.at r k fun ds vs H' F' r' dv _ k' => by
    split at k'
    · obtain ⟨v, w, rfl, d1, d2⟩ := dv.two
      exact ⟨v, w, rfl, k' _ _ _ ((r'.set d1).set d2)⟩
    · exact k'.elim
/-! ### x[k] = e: an own list, an own dict -/
def sPutL (i : Nat) (L : List Nat) (fv fk : VEnv → Res D) : Env → Out := fun ρ => eAt L fv ρ fun d => need i (fun ρ' => eAt [] fk ρ' fun n => match n with
  | .int n => chg ρ' i fun ds => match ixN ds.length n with
    | some j => some (ds.set j d)
    | none => none
  | _ => .bad) (aft L d ρ)
theorem shut_nil : ∀ (n : Nat) (ρ : Env), shutI [] n ρ = ρ
  | _, [] => rfl
  | n, none :: r => by rw [shutI, shut_nil (n + 1) r]; rfl
  | n, some (.frz d) :: r => by rw [shutI, shut_nil (n + 1) r]; rfl
  | n, some (.own t d) :: r => by rw [shutI, shut_nil (n + 1) r]; rfl
theorem aft_nil (d : D) (ρ : Env) : aft [] d ρ = ρ := by
  unfold aft shut
  rw [shut_nil, ite_self]
theorem fs_putL {x : Str} {e ik : Expr} {L : List Nat} {fv fk : VEnv → Res D} {p1 p2 pos : Pos} (i : Nat) (he : FE K xm X e fv) (hk : FE K xm X ik fk) (hN : X.N[i]? = some x := by rfl) (hv : Vis X.env.scope x := by first | exact Or.inl rfl | exact Or.inr (Or.inl rfl) | exact Or.inr (Or.inr rfl)) (hd : (x == ("__debug__" : Str)) = false := by decide)
    (hcd : (x == ("__classdict__" : Str)) = false := by decide) (ha : ∀ v, assign (.Subscript (.Name x p1) ik p2) X.env v = (do
      let ov ← holding [v] (eval (.Name x p1) X.env)
      let iv ← holding [v, ov] (eval ik X.env)
      standAt p2
      holding [v, ov, iv] (setItem ov iv v)
      release [v, ov, iv] []) := by intro _; rfl) (hs : swapsWithSole [.Subscript (.Name x p1) ik p2] e pos.line X.env = pure false := by rfl) (hw : swappedStores [.Subscript (.Name x p1) ik p2] e X.env = pure none := by rfl)
    (h1 : (assignEach [.Subscript (.Name x p1) ik p2] X.env).map (·.2) = [assign (.Subscript (.Name x p1) ik p2) X.env] := by rfl) : FS K xm X (.Assign [.Subscript (.Name x p1) ik p2] e pos) (sPutL i L fv fk) :=
  PS.to (ps_asg he (pg_sub (pv i hN hv hd hcd) hk set_list ha) hs hw h1) fun Dn σ H ⟨B, ρ, F, r, k⟩ => tF.at r k fun d v H' F' _ r' dv _ _ k' => by
    obtain ⟨⟨t, ds, hi⟩, k'⟩ := k'.needE
    obtain ⟨p, xs, q1, q2, q3, q4⟩ := r'.ownAt hi
    refine ⟨.ref p, q1, tF.at r' k' fun n w H2 F2 en r2 dw f2 h2 k2 => ?_⟩
    rw [aft_nil] at r2
    clear en
    split at k2
    · rename_i n
      obtain ⟨t', ds', es, h1, h3, k3⟩ := k2.chgE
      obtain ⟨p', xs', w1, w2, w3, w4⟩ := r2.ownAt h1
      rw [q1] at w1
      cases w1
      split at h3
      · rename_i j ej
        cases h3
        rw [dw.intE]
        exact ⟨p, xs', n, j, rfl, rfl, w2, by rw [w3.length]; exact ej, k3 _ _ _ (r2.write h1 q1 ⟨_, upd_same, DtAll.set (dv.same f2) _ w3⟩)⟩
      · cases h3
    · exact k2.elim
/-! dicts -/
noncomputable def dPut (kvs : List (D × D)) (k v : D) : List (D × D) := if (dGet kvs k).isSome = true then kvs.map (fun p => if p.1 = k then (p.1, v) else p) else kvs ++ [(k, v)]
def ownD (ρ : Env) (i : Nat) : Option (Bool × List (D × D)) := match ρ[i]? with
  | some (some (.own t (.dct false ds))) => some (t, ds)
  | _ => none
theorem ownD_of {ρ : Env} {i : Nat} {t : Bool} {ds : List (D × D)} (h : ownD ρ i = some (t, ds)) : ρ[i]? = some (some (.own t (.dct false ds))) := by
  unfold ownD at h
  split at h
  · rename_i e
    cases h
    exact e
  · cases h
def needD (i : Nat) (g : Env → Out) : Env → Out := fun ρ => match ownD ρ i with
  | some _ => g ρ
  | none => .bad
theorem So.needDE {i : Nat} {g : Env → Out} (k : So K xm B Dn (needD i g ρ)) : (∃ t ds, ρ[i]? = some (some (.own t (.dct false ds)))) ∧ So K xm B Dn (g ρ) := by
  unfold needD at k
  cases e : ownD ρ i with
  | none => rw [e] at k; exact k.elim
  | some td => rw [e] at k; exact ⟨⟨td.1, td.2, ownD_of e⟩, k⟩
def chgD (ρ : Env) (i : Nat) (f : List (D × D) → Option (List (D × D))) : Out := match ownD ρ i with
  | some (t, ds) => match f ds with
    | some es => .nx (ρ.set i (some (.own t (.dct false es))))
    | none => .bad
  | none => .bad
theorem So.chgDE {i : Nat} {f : List (D × D) → Option (List (D × D))} (k : So K xm B Dn (chgD ρ i f)) : ∃ t ds es, ρ[i]? = some (some (.own t (.dct false ds))) ∧ f ds = some es ∧ So K xm B Dn (.nx (ρ.set i (some (.own t (.dct false es))))) := by
  unfold chgD at k
  cases e : ownD ρ i with
  | none => rw [e] at k; exact k.elim
  | some td =>
    obtain ⟨t, ds⟩ := td
    rw [e] at k
    dsimp only at k
    cases e2 : f ds with
    | none => rw [e2] at k; exact k.elim
    | some es => rw [e2] at k; exact ⟨t, ds, es, ownD_of e, e2, k⟩
theorem Rl.ownDAt (r : Rl K B σ H ρ F) {i : Nat} {t : Bool} {ds : List (D × D)} (h : ρ[i]? = some (some (.own t (.dct false ds)))) : ∃ p kvs, σ[i]? = some (some (.ref p)) ∧ H p = some (.dK kvs) ∧ DtAll K F (kvs.map (·.2)) (ds.map (·.2)) ∧ ds.map (·.1) = kvs.map (fun p => keyD p.1) := by
  obtain ⟨p, q1, q2, q3, kvs, q4, q5, q6⟩ := r.ow i _ _ h
  exact ⟨p, kvs, q1, q4, q5, q6⟩
theorem repl_of {F : Hp} {k : Key} {v : V} {d : D} (hd : Dt K F v d) : ∀ {kvs : List (Key × V)} {ds : List (D × D)}, DtAll K F (kvs.map (·.2)) (ds.map (·.2)) → ds.map (·.1) = kvs.map (fun p => keyD p.1) →
    DtAll K F ((kvs.map fun kv => if kv.1 = k then (kv.1, v) else kv).map (·.2)) ((ds.map fun p => if p.1 = keyD k then (p.1, d) else p).map (·.2)) ∧ (ds.map fun p => if p.1 = keyD k then (p.1, d) else p).map (·.1) = (kvs.map fun kv => if kv.1 = k then (kv.1, v) else kv).map (fun p => keyD p.1)
  | [], [], _, _ => ⟨.nil, rfl⟩
  | [], _ :: _, _, e => by simp at e
  | _ :: _, [], _, e => by simp at e
  | p :: kvs, q :: ds, h, e => by
    simp only [List.map_cons] at h e
    cases h with
    | cons h1 h2 =>
      injection e with e1 e2
      obtain ⟨i1, i2⟩ := repl_of hd h2 e2
      simp only [List.map_cons]
      by_cases c : p.1 = k
      · have c' : q.1 = keyD k := by rw [e1, c]
        rw [if_pos c, if_pos c']
        exact ⟨.cons hd i1, by rw [i2, e1]⟩
      · have c' : ¬ q.1 = keyD k := fun z => c (keyD_inj (by rw [← e1, z]))
        rw [if_neg c, if_neg c']
        exact ⟨.cons h1 i1, by rw [i2, e1]⟩
theorem put_of {F : Hp} {k : Key} {v : V} {d : D} {kvs : List (Key × V)} {ds : List (D × D)} (hd : Dt K F v d) (h : DtAll K F (kvs.map (·.2)) (ds.map (·.2))) (e : ds.map (·.1) = kvs.map (fun p => keyD p.1)) :
    DtAll K F ((putK kvs k v).map (·.2)) ((dPut ds (keyD k) d).map (·.2)) ∧ (dPut ds (keyD k) d).map (·.1) = (putK kvs k v).map (fun p => keyD p.1) := by
  have g := (dGet_of (k := k) h e).2
  unfold dPut putK
  have v2 := valV_any k kvs
  by_cases c : (dGet ds (keyD k)).isSome = true
  · rw [if_pos c]
    rw [g, ← v2] at c
    rw [if_pos c]
    exact repl_of hd h e
  · rw [if_neg c]
    rw [g, ← v2] at c
    rw [if_neg c, List.map_append, List.map_append, List.map_append, List.map_append, e]
    exact ⟨h.app (.cons hd .nil), rfl⟩
noncomputable def sPutD (i : Nat) (L : List Nat) (fv fk : VEnv → Res D) : Env → Out := fun ρ => eAt L fv ρ fun d => needD i (fun ρ' => eAt [] fk ρ' fun n => chgD ρ' i fun ds => if (dKeyOk n && fit ds.length) = true then some (dPut ds n d) else none) (aft L d ρ)
theorem fs_putD {x : Str} {e ik : Expr} {L : List Nat} {fv fk : VEnv → Res D} {p1 p2 pos : Pos} (i : Nat) (hu : X.A.units + 1 < cLine) (he : FE K xm X e fv) (hk : FE K xm X ik fk) (hN : X.N[i]? = some x := by rfl) (hv : Vis X.env.scope x := by first | exact Or.inl rfl | exact Or.inr (Or.inl rfl) | exact Or.inr (Or.inr rfl)) (hd : (x == ("__debug__" : Str)) = false := by decide)
    (hcd : (x == ("__classdict__" : Str)) = false := by decide) (hs : swapsWith e (some (.Subscript (.Name x p1) ik p2)) pos.line X.env = pure false := by rfl) : FS K xm X (.Assign [.Subscript (.Name x p1) ik p2] e pos) (sPutD i L fv fk) :=
  PS.to (ps_dput hu (pv i hN hv hd hcd) hk he hs) fun Dn σ H ⟨B, ρ, F, r, k⟩ => tF.at r k fun d v H' F' _ r' dv _ _ k' => by
    obtain ⟨⟨t, ds, hi⟩, k'⟩ := k'.needDE
    obtain ⟨p, kvs, q1, q2, q3, q4⟩ := r'.ownDAt hi
    refine ⟨.ref p, q1, tF.at r' k' fun n w H2 F2 _ r2 dw f2 h2 k2 => ?_⟩
    rw [aft_nil] at r2
    obtain ⟨t', ds', es, h1, h3, k3⟩ := k2.chgDE
    obtain ⟨p', kvs', w1, w2, w3, w4⟩ := r2.ownDAt h1
    rw [q1] at w1
    cases w1
    by_cases c : (dKeyOk n && fit ds'.length) = true
    · rw [if_pos c] at h3
      cases h3
      rw [Bool.and_eq_true] at c
      obtain ⟨key, rfl, rfl⟩ := keyE dw c.1
      have lk : kvs'.length = ds'.length := by
        have := congrArg List.length w4
        rw [List.length_map, List.length_map] at this
        exact this.symm
      obtain ⟨z1, z2⟩ := put_of (k := key) (dv.same f2) w3 w4
      exact ⟨p, _, rfl, .k w2 (by rw [lk]; exact fit_line c.2), k3 _ _ _ (r2.write h1 q1 ⟨_, upd_same, z1, z2⟩)⟩
    · rw [if_neg c] at h3
      cases h3
/-! ### raise -/
def sRaise (x : Ex) : Env → Out := fun ρ => .ex x ρ
/-- in a def whose exceptions nobody waits for: never come to -/
theorem fs_raise0 {st : Stmt} {x : Ex} : FS K none X st (sRaise x) := PS.to ps_never fun Dn σ H ⟨B, ρ, F, r, k⟩ => k
theorem fs_raiseE0 {st : Stmt} {g : Env → Out} (h : ∀ ρ, ∃ x ρ', g ρ = .ex x ρ' ∨ g ρ = .bad) : FS K none X st g := PS.to ps_never fun Dn σ H ⟨B, ρ, F, r, k⟩ => by
  obtain ⟨x, ρ', e | e⟩ := h ρ
  · rw [e] at k; exact k
  · rw [e] at k; exact k
/-- raise C("..."), C an own class without an own __init__ -/
theorem fs_raiseN {mg : Str → Option Value} {W : WX} {c : Str} {C : Addr} {m : Str} {j : Nat} {p p2 pos ps : Pos} (tk : Takes X W) (T : Dear.ExOwn X.K X.mg c C) (hmg : X.mg = mg := by rfl) (hc : X.calm = true := by rfl) (hg : Gl X c := by rfl) (hdb : (c == ("__debug__" : Str)) = false := by decide) :
    FS K (some ⟨mg, W⟩) X (.Raise (some (.Call (.Name c p) [.Constant (.str m) j p2] [] pos)) none ps) (sRaise ⟨c, []⟩) :=
  PS.to (ps_raise hc tk (pmk_own PySem.F.excBase_ValueError T.x T.g T.k (raises_own T.b T.t) hg hdb)) fun Dn σ H ⟨B, ρ, F, r, k⟩ => k (.ref C) none σ H F r ⟨by rw [← hmg]; exact T.g, rfl⟩
/-- may stand in an exception's field -/
def fmtOk : D → Bool
  | .non => true
  | .str y => Nat.ble y.length 900
  | .int i => decide (i.natAbs < 2 ^ 64)
  | _ => false
theorem fmt_of {v : V} {d : D} (h : Dt K F v d) (o : fmtOk d = true) : Dear.FmtV v := by
  cases h with
  | non => exact .inl rfl
  | str y => exact .inr (.inl ⟨y, rfl, Nat.le_of_ble_eq_true o⟩)
  | int i => exact .inr (.inr ⟨i, rfl, of_decide_eq_true o⟩)
  | _ => cases o
def sRaiseI (c f : Str) (L : List Nat) (fa : VEnv → Res D) : Env → Out := fun ρ => eAt L fa ρ fun d => if fmtOk d = true then .ex ⟨c, [(f, d)]⟩ (aft L d ρ) else .bad
theorem fs_raiseI0 {st : Stmt} {c f : Str} {L : List Nat} {fa : VEnv → Res D} : FS K none X st (sRaiseI c f L fa) := PS.to ps_never fun Dn σ H ⟨B, ρ, F, r, k⟩ => by
  unfold sRaiseI eAt at k
  split at k
  · dsimp only at k
    split at k
    · exact k
    · exact k
  · exact k
  · exact k
theorem fs_raiseI {mg : Str → Option Value} {W : WX} {k' : Nat} {c f : Str} {C : Addr} {e : Expr} {L : List Nat} {fa : VEnv → Res D} {p pos ps : Pos} (tk : Takes X W) (O : Dear.OkI X.prog X.w X.K X.mg X.base c f C) (hr : Room k' X.A) (he : FE K (some ⟨mg, W⟩) X e fa) (hk : 2 ≤ k' := by decide) (hmg : X.mg = mg := by rfl) (hK : X.K = K := by rfl) (hc : X.calm = true := by rfl) (hg : Gl X c := by rfl) (hdb : (c == ("__debug__" : Str)) = false := by decide)
    (hs : starEach [e] X.env = (false, eval e X.env) :: starEach [] X.env := by rfl) (hpl : (backTo pos (starEach [] X.env)).any (·.1) = false := by rfl) : FS K (some ⟨mg, W⟩) X (.Raise (some (.Call (.Name c p) [e] [] pos)) none ps) (sRaiseI c f L fa) := by
  subst hK
  refine PS.to (ps_raise hc tk (Dear.pmk_i O hr (pa_cons he pa_nil hs) hk hg hdb hs hpl)) fun Dn σ H ⟨B, ρ, F, r, k⟩ => tF.at r k fun d v H' F' _ r' dv _ _ k2 => ?_
  by_cases o : fmtOk d = true
  · rw [if_pos o] at k2
    obtain ⟨fI, fd, h1, h2, F1, b, T⟩ := O
    refine Dear.mkx (H := H') (Q := fun cls d H' => W cls d σ H') T (fmt_of dv o) fun dd hd => ?_
    have g := Gr.new (o := .xd [(f, v)]) r'.fh hd
    exact k2 (.ref C) (some dd) σ _ _ (r'.grow g) ⟨by rw [← hmg]; exact T.g, dd, v, rfl, upd_same, dv.same g.ff⟩
  · rw [if_neg o] at k2
    exact k2.elim
end
end Du

namespace Du
open PySem PySem.Spec PyProof.Rows L2
/-! ### a def whose body computes g -/
def ent (n np : Nat) (ds : List D) : Env := ds.map (fun d => some (.frz d)) ++ List.replicate (n - np) none
def outR : Out → Res D
  | .nx _ => .ok .non
  | .rt d _ => .ok d
  | .ro d _ => .ok d
  | .ex x _ => .exc x
  | _ => .bad
def runD (np n : Nat) (g : Env → Out) (ds : List D) : Res D := if ds.length = np then outR (g (ent n np ds)) else .bad
section
variable {P : Program} {w : World} {K : PySem.W.Frag} {mg : Str → Option Value} {base : Heap}
theorem start_get {N : List Str} {vs : List V} {i : Nat} {v : V} (h : vs[i]? = some v) : (L2.start N vs)[i]? = some (some v) := by
  unfold L2.start
  rw [List.getElem?_append_left (by rw [List.length_map]; exact (List.getElem?_eq_some_iff.mp h).1), List.getElem?_map, h]
  rfl
theorem ent_get {n np : Nat} {ds : List D} {i : Nat} {s : Slot} (h : (ent n np ds)[i]? = some (some s)) : ∃ d, ds[i]? = some d ∧ s = .frz d := by
  unfold ent at h
  by_cases hi : i < ds.length
  · rw [List.getElem?_append_left (by rw [List.length_map]; exact hi), List.getElem?_map] at h
    obtain ⟨d, h1, h2⟩ := Option.map_eq_some_iff.mp h
    cases h2
    exact ⟨d, h1, rfl⟩
  · rw [List.getElem?_append_right (by rw [List.length_map]; omega)] at h
    have := List.mem_of_getElem? h
    rw [List.mem_replicate] at this
    cases this.2
theorem Rl.start {N : List Str} {vs : List V} {ds : List D} {G H : Hp} {np : Nat} (s : Same G H) (h : DtAll K G vs ds) (hn : ds.length = np) (hN : np ≤ N.length) : Rl K ⟨H, G, 0⟩ (L2.start N vs) H (ent N.length np ds) G := by
  refine ⟨s, .refl _, fun a o u _ e => ⟨u, e⟩, ?_, fun i d e => ?_, fun i t d e => ?_, fun i j t u d e p h1 h2 => ?_, fun i d p h1 h2 => ?_⟩
  · unfold L2.start ent
    rw [List.length_append, List.length_append, List.length_map, List.length_map, List.length_replicate, List.length_replicate, h.length]
    omega
  · obtain ⟨d', h1, h2⟩ := ent_get e
    cases h2
    obtain ⟨v, q1, q2⟩ := h.at h1
    exact ⟨v, start_get q1, q2⟩
  · obtain ⟨d', h1, h2⟩ := ent_get e
    cases h2
  · obtain ⟨d', _, h2⟩ := ent_get h1
    cases h2
  · obtain ⟨d', _, h2⟩ := ent_get h1
    cases h2
theorem ExIs.same {F G : Hp} {x : Ex} {C : Value} {dd : Option Addr} (h : ExIs K mg x F C dd) (s : Same F G) : ExIs K mg x G C dd := by
  obtain ⟨h1, h2⟩ := h
  refine ⟨h1, ?_⟩
  split at h2
  · exact h2
  · obtain ⟨a, v, e, e2, e3⟩ := h2
    exact ⟨a, v, e, s _ _ e2, e3.same s⟩
  · exact h2
/-- what the promise says of the end -/
theorem Rl.done {G H H' F' : Hp} {σ : St} {ρ : Env} (r : Rl K ⟨H, G, 0⟩ σ H' ρ F') (s : Same G H) : ∃ G', Gr G H G' H' ∧ Same F' G' := by
  refine ⟨both F' G, ⟨r.bh, both_r r.fh (s.trans r.bh), both_in r.fh (s.trans r.bh), fun a o e => ?_⟩, both_l⟩
  rcases both_cases e with z | z
  · cases q : H a with
    | none => exact .inr rfl
    | some u =>
      obtain ⟨v, hv⟩ := r.zf a u o q z
      have e1 := r.fh _ _ z
      have e2 := (s.trans r.bh) _ _ hv
      rw [e1] at e2
      cases e2
      exact .inl hv
  · exact .inl z
theorem Rl.done2 {G H H' F' : Hp} {σ : St} {ρ : Env} {p : Addr} {d : D} (r : Rl K ⟨H, G, 0⟩ σ H' ρ F') (s : Same G H) (fp : F' p = none) (bp : H p = none) (ow : Ow K F' H' p d) : ∃ G', Gr G H G' H' ∧ G' p = none ∧ Ow K G' H' p d := by
  refine ⟨both F' G, ⟨r.bh, both_r r.fh (s.trans r.bh), both_in r.fh (s.trans r.bh), fun a o e => ?_⟩, both_none fp (s.free bp), ow.mono both_l fun _ h => h⟩
  rcases both_cases e with z | z
  · cases q : H a with
    | none => exact .inr rfl
    | some u =>
      obtain ⟨v, hv⟩ := r.zf a u o q z
      have e1 := r.fh _ _ z
      have e2 := (s.trans r.bh) _ _ hv
      rw [e1] at e2
      cases e2
      exact .inl hv
  · exact .inl z
theorem Rl.freeze {G H H' F' : Hp} {σ : St} {ρ : Env} {p : Addr} {d : D} (r : Rl K ⟨H, G, 0⟩ σ H' ρ F') (s : Same G H) (fp : F' p = none) (bp : H p = none) (ow : Ow K F' H' p d) : ∃ G', Gr G H G' H' ∧ Dt K G' (.ref p) d := by
  obtain ⟨G', g, gp, ow'⟩ := r.done2 s fp bp ow
  obtain ⟨o, ho⟩ := ow'.some
  exact ⟨_, g.freeze bp gp ho, ow'.dt (sm_upd gp) fun u hu => by rw [upd_same, ← hu, ho]⟩
theorem sp0_len {f : List D → Res D} {np n : Nat} {g : Env → Out} {vs : List V} {H : Hp} {Q : VK} {E : XK} (h : sp0 K (runD np n g) vs H Q E) : vs.length = np := by
  obtain ⟨ds, G, s, hd, d, e, _⟩ := h
  unfold runD at e
  by_cases hn : ds.length = np
  · rw [hd.length, hn]
  · rw [if_neg hn] at e
    cases e
theorem spX_len {np n : Nat} {g : Env → Out} {vs : List V} {H : Hp} {Q : VK} {E : XK} (h : spX K mg (runD np n g) vs H Q E) : vs.length = np := by
  obtain ⟨ds, G, s, hd, h⟩ := h
  unfold runD at h
  by_cases hn : ds.length = np
  · rw [hd.length, hn]
  · rw [if_neg hn] at h
    exact h.elim
theorem ok0 {x : Str} {st : Stmt} {N ps : List Str} {k : Nat} {g : Env → Out} (D : Dear.Df K mg x st ps) (S : FnScope N ps (defScope st))
    (body : ∀ (f : Addr) (cdv : Value) (A : Around) (outer : List PySem.Env) (s : Shared) (H : Hp) (E : XK), Room k (A.deeper (envOfC x (defScope st) s.heap.objs.size f cdv)) → FSs K none (cxOf CX0 P w K mg base N x (defScope st) f cdv A outer s H E).nox (defBody st) g)
    (hN : ps.length ≤ N.length := by decide) : Dear.OkF P w K mg base CX0 (k + 1) x ps (sp0 K (runD ps.length N.length g)) :=
  D.ok S (fun vs H Q E h => sp0_len (f := runD ps.length N.length g) h) fun f cdv A outer s H vs Q E hr h => ⟨_, body f cdv A outer s H E hr, by
    obtain ⟨ds, G, sG, hd, d, e, q⟩ := h
    unfold runD at e
    by_cases hn : ds.length = ps.length
    · rw [if_pos hn] at e
      refine ⟨⟨H, G, 0⟩, _, G, Rl.start sG hd hn hN, ?_⟩
      unfold outR at e
      cases e2 : g (ent N.length ps.length ds) with
      | nx ρ =>
        rw [e2] at e
        cases e
        intro σ' H' F' r
        obtain ⟨G', g1, d1⟩ := r.done sG
        exact q _ _ _ g1 .non
      | rt d' ρ =>
        rw [e2] at e
        cases e
        intro v σ' H' F' r dv
        obtain ⟨G', g1, d1⟩ := r.done sG
        exact q _ _ _ g1 (dv.same d1)
      | ro d' ρ =>
        rw [e2] at e
        cases e
        intro p σ' H' F' r fp bp ow
        obtain ⟨G', g1, d1⟩ := r.freeze sG fp bp ow
        exact q _ _ _ g1 d1
      | bk ρ => rw [e2] at e; cases e
      | ct ρ => rw [e2] at e; cases e
      | ex x ρ => rw [e2] at e; cases e
      | bad => rw [e2] at e; cases e
    · rw [if_neg hn] at e
      cases e⟩
theorem okX {x : Str} {st : Stmt} {N ps : List Str} {k : Nat} {g : Env → Out} (D : Dear.Df K mg x st ps) (S : FnScope N ps (defScope st))
    (body : ∀ (f : Addr) (cdv : Value) (A : Around) (outer : List PySem.Env) (s : Shared) (H : Hp) (E : XK), Room k (A.deeper (envOfC x (defScope st) s.heap.objs.size f cdv)) → FSs K (some ⟨mg, fun c d _ H => E c d H⟩) (cxOf (L2.CX P w) P w K mg base N x (defScope st) f cdv A outer s H E) (defBody st) g)
    (hN : ps.length ≤ N.length := by decide) : Dear.OkF P w K mg base (L2.CX P w) (k + 1) x ps (spX K mg (runD ps.length N.length g)) :=
  D.okX S (fun vs H Q E h => spX_len h) fun f cdv A outer s H vs Q E hr h => ⟨_, body f cdv A outer s H E hr, by
    obtain ⟨ds, G, sG, hd, q⟩ := h
    unfold runD at q
    by_cases hn : ds.length = ps.length
    · rw [if_pos hn] at q
      refine ⟨⟨H, G, 0⟩, _, G, Rl.start sG hd hn hN, ?_⟩
      unfold outR at q
      cases e2 : g (ent N.length ps.length ds) with
      | nx ρ =>
        rw [e2] at q
        intro σ' H' F' r
        obtain ⟨G', g1, d1⟩ := r.done sG
        exact q _ _ _ g1 .non
      | rt d' ρ =>
        rw [e2] at q
        intro v σ' H' F' r dv
        obtain ⟨G', g1, d1⟩ := r.done sG
        exact q _ _ _ g1 (dv.same d1)
      | ex x ρ =>
        rw [e2] at q
        intro C dd σ' H' F' r hx
        obtain ⟨G', g1, d1⟩ := r.done sG
        exact q C dd _ _ g1 (hx.same d1)
      | ro d' ρ =>
        rw [e2] at q
        intro p σ' H' F' r fp bp ow
        obtain ⟨G', g1, d1⟩ := r.freeze sG fp bp ow
        exact q _ _ _ g1 d1
      | bk ρ => rw [e2] at q; exact q.elim
      | ct ρ => rw [e2] at q; exact q.elim
      | bad => rw [e2] at q; exact q.elim
    · rw [if_neg hn] at q
      exact q.elim⟩
end
end Du

namespace Du
open PySem PySem.Spec PyProof.Rows L2
/-! ### expressions that change the def's own things (a call that is handed one of them to be changed) -/
inductive MO (α : Type) where
  | ok (a : α) (ρ : Env)
  | ex (x : Ex) (ρ : Env)
  | bad
def MO.bind {α β : Type} (r : MO α) (f : α → Env → MO β) : MO β := match r with
  | .ok a ρ => f a ρ
  | .ex x ρ => .ex x ρ
  | .bad => .bad
section
variable {α β : Type}
@[simp] theorem MO.bind_ok (a : α) (ρ : Env) (f : α → Env → MO β) : (MO.ok a ρ).bind f = f a ρ := rfl
@[simp] theorem MO.bind_ex (x : Ex) (ρ : Env) (f : α → Env → MO β) : (MO.ex x ρ).bind f = .ex x ρ := rfl
@[simp] theorem MO.bind_bad (f : α → Env → MO β) : (MO.bad : MO α).bind f = .bad := rfl
end
/-- what a reading with state has to give -/
def Pm {α ω : Type} (R : Hp → ω → α → Prop) (K : PySem.W.Frag) (xm : XMo) (σ : St) (B : Bs) (F : Hp) (r : MO α) (Q : ω → Hp → Prop) : Prop := match r with
  | .ok a ρ => ∀ w H' F', Rl K B σ H' ρ F' → Same F F' → R F' w a → Q w H'
  | .ex x ρ => match xm with
    | none => False
    | some m => ∀ C dd H' F', Rl K B σ H' ρ F' → ExIs K m.mg x F' C dd → m.W C dd σ H'
  | .bad => False
section
variable {α β ω ω' : Type} {R : Hp → ω → α → Prop} {R' : Hp → ω' → β → Prop} {K : PySem.W.Frag} {xm : XMo} {σ : St} {B : Bs} {F F1 : Hp}
theorem Pm.mono {r : MO α} {Q : ω → Hp → Prop} (h : Pm R K xm σ B F r Q) (s : Same F F1) : Pm R K xm σ B F1 r Q := by
  cases r with
  | ok a ρ => exact fun w H' F' r' s' => h w H' F' r' (s.trans s')
  | ex x ρ => exact h
  | bad => exact h
theorem Pm.seq {r : MO α} {f : α → Env → MO β} {Q : ω' → Hp → Prop} {W : ω → Hp → Prop} (k : Pm R' K xm σ B F (r.bind f) Q) (n : ∀ a ρ w H1 F1, Rl K B σ H1 ρ F1 → Same F F1 → R F1 w a → Pm R' K xm σ B F1 (f a ρ) Q → W w H1) : Pm R K xm σ B F r W := by
  cases r with
  | ok a ρ => exact fun w H1 F1 r1 s d => n a ρ w H1 F1 r1 s d (Pm.mono k s)
  | ex x ρ => exact k
  | bad => exact k
theorem Pm.done {a : α} {ρ : Env} {w : ω} {H : Hp} {Q : ω → Hp → Prop} (k : Pm R K xm σ B F (.ok a ρ) Q) (r : Rl K B σ H ρ F) (h : R F w a) : Q w H := k w H F r (.refl _) h
end
def tM (K : PySem.W.Frag) (xm : XMo) (m : Env → MO D) : TE := fun σ H Q => ∃ B ρ F, Rl K B σ H ρ F ∧ Pm (RD K) K xm σ B F (m ρ) Q
def bM (K : PySem.W.Frag) (xm : XMo) (m : Env → MO Bool) : TT := fun σ H Q => ∃ B ρ F, Rl K B σ H ρ F ∧ Pm RB K xm σ B F (m ρ) Q
def aM (K : PySem.W.Frag) (xm : XMo) (m : Env → MO (List D)) : TA := fun σ H Q => ∃ B ρ F, Rl K B σ H ρ F ∧ Pm (RL K) K xm σ B F (m ρ) Q
abbrev ME (K : PySem.W.Frag) (xm : XMo) (X : Cx) (e : Expr) (m : Env → MO D) : Prop := PE X e (tM K xm m)
abbrev MT (K : PySem.W.Frag) (xm : XMo) (X : Cx) (e : Expr) (m : Env → MO Bool) : Prop := PT X e (bM K xm m)
abbrev MA (K : PySem.W.Frag) (xm : XMo) (X : Cx) (e : List Expr) (m : Env → MO (List D)) : Prop := PA X e (aM K xm m)
section
variable {K : PySem.W.Frag} {xm : XMo} {X : Cx} {B : Bs} {F H : Hp} {σ : St} {ρ : Env} {Dn : Ends}
/-! pure parts -/
def mP (L : List Nat) (f : VEnv → Res D) : Env → MO D := fun ρ => match f (view L ρ) with
  | .ok d => .ok d (aft L d ρ)
  | .exc x => .ex x (shut L ρ)
  | .bad => .bad
theorem exc_m {L : List Nat} {x : Ex} {α ω : Type} {R : Hp → ω → α → Prop} {Q : ω → Hp → Prop} (r : Rl K B σ H ρ F) (k : Pm R K xm σ B F (.ex x (shut L ρ)) Q) : Xw K xm σ (lend σ ρ L F H) H x := by
  cases xm with
  | none => exact k.elim
  | some m => exact fun C dd F' H' g e => k C dd H' F' (r.shutted g) e
theorem tM.p {L : List Nat} {f : VEnv → Res D} {Q : VK} (h : tM K xm (mP L f) σ H Q) : tF K xm f σ H Q := by
  obtain ⟨B, ρ, F, r, k⟩ := h
  refine ⟨_, _, r.lend_fh L, r.view L, ?_⟩
  unfold mP at k
  cases e : f (view L ρ) with
  | ok d =>
    rw [e] at k
    intro v F' H' g hd
    obtain ⟨F2, r2, h2, h3⟩ := r.aft g hd
    exact k v H' F2 r2 h3 h2
  | exc x =>
    rw [e] at k
    exact exc_m r k
  | bad => rw [e] at k; exact k.elim
theorem me_p {e : Expr} {L : List Nat} {f : VEnv → Res D} (h : FE K xm X e f) : ME K xm X e (mP L f) := PE.to h fun _ _ _ k => k.p
def mB (L : List Nat) (f : VEnv → Res Bool) : Env → MO Bool := fun ρ => match f (view L ρ) with
  | .ok d => .ok d ρ
  | .exc x => .ex x (shut L ρ)
  | .bad => .bad
theorem mt_p {e : Expr} {L : List Nat} {f : VEnv → Res Bool} (h : FT K xm X e f) : MT K xm X e (mB L f) := PT.to h fun σ H Q ⟨B, ρ, F, r, k⟩ => by
  refine ⟨_, _, r.lend_fh L, r.view L, ?_⟩
  unfold mB at k
  cases e : f (view L ρ) with
  | ok d =>
    rw [e] at k
    intro v F' H' g hd
    exact k v H' _ (r.back g) (r.back_ff g) hd
  | exc x =>
    rw [e] at k
    exact exc_m r k
  | bad => rw [e] at k; exact k.elim
/-! operators -/
def mOp (g : D → D → Res D) (ma mb : Env → MO D) : Env → MO D := fun ρ => (ma ρ).bind fun a ρ1 => (mb ρ1).bind fun b ρ2 => match g a b with
  | .ok d => .ok d ρ2
  | _ => .bad
/-- a pure rule behind parts with state -/
theorem Rl.pure (r : Rl K B σ H ρ F) {d : D} {Q : VK} (k : Pm (RD K) K xm σ B F (.ok d ρ) Q) : Po (RD K) K xm σ F H (.ok d) Q := fun v F' H' g hd => k v H' F' (r.grow g) g.ff hd
theorem tM.op {r : R2} {g : D → D → Res D} {ma mb : Env → MO D} (h : OpD K r g) {Q : VK} (k : tM K xm (mOp g ma mb) σ H Q) : tOp r (tM K xm ma) (tM K xm mb) σ H Q := by
  obtain ⟨B, ρ, F, r0, k⟩ := k
  refine ⟨B, ρ, F, r0, Pm.seq k fun a ρ1 x H1 F1 r1 s1 d1 k1 => ⟨B, ρ1, F1, r1, Pm.seq k1 fun b ρ2 y H2 F2 r2 s2 d2 k2 => ?_⟩⟩
  cases e : g a b with
  | ok d =>
    rw [e] at k2
    dsimp only at k2
    refine h xm σ F2 H2 x y a b Q r2.fh (d1.same s2) d2 ?_
    rw [e]
    exact r2.pure k2
  | exc x => rw [e] at k2; exact k2.elim
  | bad => rw [e] at k2; exact k2.elim
theorem me_op {a b : Expr} {op : Operator} {pos : Pos} {r : R2} {g : D → D → Res D} {ma mb : Env → MO D} (ho : OpR X (binaryOp op) r) (h : OpD K r g) (ha : ME K xm X a ma) (hb : ME K xm X b mb) : ME K xm X (.BinOp a op b pos) (mOp g ma mb) := PE.to (pe_op ho ha hb) fun _ _ _ k => k.op h
theorem me_cmp {a b : Expr} {op : CmpOp} {pos : Pos} {r : R2} {g : D → D → Res D} {ma mb : Env → MO D} (ho : OpR X (compareOp op) r) (h : OpD K r g) (ha : ME K xm X a ma) (hb : ME K xm X b mb) (hm : behindInMarks op b = false := by first | exact nomark _ | rfl) :
    ME K xm X (.Compare a [op] [b] pos) (mOp g ma mb) := PE.to (pe_cmpR ho ha hb hm) fun _ _ _ k => k.op h
theorem me_ix {a b : Expr} {pos : Pos} {r : R2} {g : D → D → Res D} {ma mb : Env → MO D} (hr : IxR X r) (h : OpD K r g) (ha : ME K xm X a ma) (hb : ME K xm X b mb) (hs : PlainIx b := by intro _ _; rfl) : ME K xm X (.Subscript a b pos) (mOp g ma mb) := PE.to (pe_ix hr ha hb hs) fun _ _ _ k => k.op h
/-! arguments, displays -/
def mNil : Env → MO (List D) := fun ρ => .ok [] ρ
def mCons (m : Env → MO D) (n : Env → MO (List D)) : Env → MO (List D) := fun ρ => (m ρ).bind fun a ρ1 => (n ρ1).bind fun as ρ2 => .ok (a :: as) ρ2
theorem ma_nil : MA K xm X [] mNil := PA.to pa_nil fun σ H Q ⟨B, ρ, F, r, k⟩ => k.done r .nil
theorem ma_cons {e : Expr} {es : List Expr} {m : Env → MO D} {n : Env → MO (List D)} (h : ME K xm X e m) (q : MA K xm X es n) (hs : starEach (e :: es) X.env = (false, eval e X.env) :: starEach es X.env := by rfl) : MA K xm X (e :: es) (mCons m n) :=
  PA.to (pa_cons h q hs) fun σ H Q ⟨B, ρ, F, r, k⟩ => ⟨B, ρ, F, r, Pm.seq k fun a ρ1 x H1 F1 r1 s1 d1 k1 => ⟨B, ρ1, F1, r1, Pm.seq k1 fun b ρ2 y H2 F2 r2 s2 d2 k2 => k2.done r2 (.cons (d1.same s2) d2)⟩⟩
/-- pure arguments -/
def mAP (L : List Nat) (f : VEnv → Res (List D)) : Env → MO (List D) := fun ρ => match f (view L ρ) with
  | .ok d => .ok d (aftL L d ρ)
  | .exc x => .ex x (shut L ρ)
  | .bad => .bad
theorem ma_p {e : List Expr} {L : List Nat} {f : VEnv → Res (List D)} (h : FA K xm X e f) : MA K xm X e (mAP L f) := PA.to h fun σ H Q ⟨B, ρ, F, r, k⟩ => by
  refine ⟨_, _, r.lend_fh L, r.view L, ?_⟩
  unfold mAP at k
  cases e : f (view L ρ) with
  | ok d =>
    rw [e] at k
    intro v F' H' g hd
    obtain ⟨F2, r2, h2, h3, _⟩ := r.aftL g hd
    exact k v H' F2 r2 h3 h2
  | exc x =>
    rw [e] at k
    exact exc_m r k
  | bad => rw [e] at k; exact k.elim
def mTup (m : Env → MO (List D)) : Env → MO D := fun ρ => (m ρ).bind fun as ρ1 => if fit as.length = true then .ok (.tup as) ρ1 else .bad
def mLst (m : Env → MO (List D)) : Env → MO D := fun ρ => (m ρ).bind fun as ρ1 => if fit as.length = true then .ok (.lst as) ρ1 else .bad
theorem Pm.ite {α ω : Type} {R : Hp → ω → α → Prop} {b : Bool} {r : MO α} {Q : ω → Hp → Prop} (k : Pm R K xm σ B F (if b = true then r else .bad) Q) : b = true ∧ Pm R K xm σ B F r Q := by
  cases b with
  | true => exact ⟨rfl, by rwa [if_pos rfl] at k⟩
  | false =>
    rw [if_neg Bool.false_ne_true] at k
    exact k.elim
theorem me_tup {es : List Expr} {kk : Nat} {pos : Pos} {m : Env → MO (List D)} (h : MA K xm X es m) : ME K xm X (.Tuple es kk pos) (mTup m) :=
  PE.to (pe_tup h) fun σ H Q ⟨B, ρ, F, r, k⟩ => ⟨B, ρ, F, r, Pm.seq k fun a ρ1 xs H1 F1 r1 s1 d1 k1 => by
    obtain ⟨f, k1⟩ := Pm.ite k1
    refine ⟨by rw [d1.length]; exact Nat.le_of_lt (fit_line f), fun p hp => ?_⟩
    have g := Gr.new (o := .tup xs) r1.fh hp
    exact k1 _ _ _ (r1.grow g) g.ff (.tup upd_same (d1.same g.ff))⟩
theorem me_lst {es : List Expr} {pos : Pos} {m : Env → MO (List D)} (h : MA K xm X es m) : ME K xm X (.List es pos) (mLst m) :=
  PE.to (pe_lst h) fun σ H Q ⟨B, ρ, F, r, k⟩ => ⟨B, ρ, F, r, Pm.seq k fun a ρ1 xs H1 F1 r1 s1 d1 k1 => by
    obtain ⟨f, k1⟩ := Pm.ite k1
    refine ⟨by rw [d1.length]; exact Nat.le_of_lt (fit_line f), fun p hp => ?_⟩
    have g := Gr.new (o := .lst xs) r1.fh hp
    exact k1 _ _ _ (r1.grow g) g.ff (.lst upd_same (d1.same g.ff))⟩
/-! pure calls of arguments with state -/
def mApp (g : List D → Res D) (m : Env → MO (List D)) : Env → MO D := fun ρ => (m ρ).bind fun as ρ1 => match g as with
  | .ok d => .ok d ρ1
  | _ => .bad
theorem me_call {x : Str} {k k' : Nat} {ps : List Str} {f : List D → Res D} {e : Expr} {es : List Expr} {p pos : Pos} {m : Env → MO (List D)} (O : Dear.OkF X.prog X.w X.K X.mg X.base CX0 k x ps (sp0 K f)) (hr : Room k' X.A) (ha : MA K xm X (e :: es) m) (hk : k ≤ k' := by decide) (hg : Gl X x := by rfl)
    (hdb : (x == ("__debug__" : Str)) = false := by decide) (he : starEach (e :: es) X.env = (false, eval e X.env) :: starEach es X.env := by rfl) (hpl : (backTo pos (starEach es X.env)).any (·.1) = false := by rfl) : ME K xm X (.Call (.Name x p) (e :: es) [] pos) (mApp f m) :=
  PE.to (Dear.pe_c O hr ha hk hg hdb he hpl) fun σ H Q ⟨B, ρ, F, r, k⟩ => ⟨B, ρ, F, r, Pm.seq k fun ds ρ1 vs H1 F1 r1 s1 d1 k1 => by
    refine ⟨ds, F1, r1.fh, by rw [List.append_nil]; exact d1, ?_⟩
    cases e : f ds with
    | ok d =>
      rw [e] at k1
      exact ⟨d, rfl, fun v G' H' g hd => k1 v H' G' (r1.grow g) g.ff hd⟩
    | exc x => rw [e] at k1; exact k1.elim
    | bad => rw [e] at k1; exact k1.elim⟩
theorem me_callB {x : Str} {id : String} {r : List V → Hp → VK → Prop} {g : List D → Res D} {e : Expr} {es : List Expr} {p pos : Pos} {m : Env → MO (List D)} (hc : CallR X (.builtin id) r) (h : CallD K r g) (hm : X.mg x = none) (ha : MA K xm X (e :: es) m) (hg : Gl X x := by rfl) (hv : bootBuiltins x = some (.builtin id) := by decide +kernel)
    (hn : x ≠ "__name__" := by decide) (hdb : (x == ("__debug__" : Str)) = false := by decide) (he : starEach (e :: es) X.env = (false, eval e X.env) :: starEach es X.env := by rfl) (hpl : (backTo pos (starEach es X.env)).any (·.1) = false := by rfl) :
    ME K xm X (.Call (.Name x p) (e :: es) [] pos) (mApp g m) := PE.to (pe_callB hc hg hm hv ha hn hdb he hpl) fun σ H Q ⟨B, ρ, F, r, k⟩ => ⟨B, ρ, F, r, Pm.seq k fun ds ρ1 vs H1 F1 r1 s1 d1 k1 => by
    refine h xm σ F1 H1 vs ds Q r1.fh d1 ?_
    cases e : g ds with
    | ok d =>
      rw [e] at k1
      exact fun v G' H' g hd => k1 v H' G' (r1.grow g) g.ff hd
    | exc x => rw [e] at k1; exact k1.elim
    | bad => rw [e] at k1; exact k1.elim⟩
/-! tests -/
def mTest (m : Env → MO D) : Env → MO Bool := fun ρ => (m ρ).bind fun a ρ1 => match a with
  | .bl b => .ok b ρ1
  | _ => .bad
theorem mt_cmp {a b : Expr} {op : CmpOp} {pos : Pos} {r : R2} {g : D → D → Res D} {ma mb : Env → MO D} (ho : OpR X (compareOp op) r) (h : OpD K r g) (ha : ME K xm X a ma) (hb : ME K xm X b mb) (hm : behindInMarks op b = false := by first | exact nomark _ | rfl) :
    MT K xm X (.Compare a [op] [b] pos) (mTest (mOp g ma mb)) := PT.to (pt_cmpR ho ha hb hm) fun σ H Q ⟨B, ρ, F, r, k⟩ => tM.op h ⟨B, ρ, F, r, Pm.seq (R := RD K) k fun a ρ1 x H1 F1 r1 s1 d1 k1 => by
    cases a with
    | bl b =>
      refine ⟨b, d1.blE, ?_⟩
      exact Pm.done (R := RB) k1 r1 rfl
    | _ => exact k1.elim⟩
theorem mt_val {e : Expr} {m : Env → MO D} (h : ME K xm X e m) (he : ∀ whole, isTrue e X.env whole = (do let v ← whole; standAt e.pos; holding [v] (truthy v)) := by intro _; rfl) : MT K xm X e (mTest m) :=
  PT.to (pt_val h he) fun σ H Q ⟨B, ρ, F, r, k⟩ => ⟨B, ρ, F, r, Pm.seq (R := RD K) k fun a ρ1 x H1 F1 r1 s1 d1 k1 => by
    cases a with
    | bl b =>
      refine ⟨b, d1.blE, ?_⟩
      exact Pm.done (R := RB) k1 r1 rfl
    | _ => exact k1.elim⟩
def mNot (m : Env → MO Bool) : Env → MO Bool := fun ρ => (m ρ).bind fun b ρ1 => .ok (!b) ρ1
theorem mt_not {a : Expr} {pos : Pos} {m : Env → MO Bool} (h : MT K xm X a m) : MT K xm X (.UnaryOp .Not a pos) (mNot m) := PT.to (pt_not h) fun σ H Q ⟨B, ρ, F, r, k⟩ => ⟨B, ρ, F, r, Pm.seq (R := RB) k fun a ρ1 x H1 F1 r1 s1 d1 k1 => by
  subst d1
  exact k1.done r1 rfl⟩
def mAnd (m n : Env → MO Bool) : Env → MO Bool := fun ρ => (m ρ).bind fun b ρ1 => if b = true then n ρ1 else .ok false ρ1
def mOr (m n : Env → MO Bool) : Env → MO Bool := fun ρ => (m ρ).bind fun b ρ1 => if b = true then .ok true ρ1 else n ρ1
abbrev MW (K : PySem.W.Frag) (xm : XMo) (X : Cx) (e : Expr) (m : Env → MO Bool) : Prop := PW X e (bM K xm m)
theorem mw_and1 {a : Expr} {pos : Pos} {m : Env → MO Bool} (h : MT K xm X a m) : MW K xm X (.BoolOp .And [a] pos) m := pw_and1 h
theorem mw_or1 {a : Expr} {pos : Pos} {m : Env → MO Bool} (h : MT K xm X a m) : MW K xm X (.BoolOp .Or [a] pos) m := pw_or1 h
theorem mw_and {a b : Expr} {rest : List Expr} {pos : Pos} {m n : Env → MO Bool} (h : MT K xm X a m) (q : MW K xm X (.BoolOp .And (b :: rest) pos) n) : MW K xm X (.BoolOp .And (a :: b :: rest) pos) (mAnd m n) :=
  PW.to (pw_and h q) fun σ H Q ⟨B, ρ, F, r, k⟩ => ⟨B, ρ, F, r, Pm.seq (R := RB) k fun a ρ1 x H1 F1 r1 s1 d1 k1 => by
    subst d1
    cases x with
    | true => exact iteT ⟨B, ρ1, F1, r1, by rwa [if_pos rfl] at k1⟩
    | false =>
      rw [if_neg Bool.false_ne_true] at k1
      exact iteF (k1.done r1 rfl)⟩
theorem mw_or {a b : Expr} {rest : List Expr} {pos : Pos} {m n : Env → MO Bool} (h : MT K xm X a m) (q : MW K xm X (.BoolOp .Or (b :: rest) pos) n) : MW K xm X (.BoolOp .Or (a :: b :: rest) pos) (mOr m n) :=
  PW.to (pw_or h q) fun σ H Q ⟨B, ρ, F, r, k⟩ => ⟨B, ρ, F, r, Pm.seq (R := RB) k fun a ρ1 x H1 F1 r1 s1 d1 k1 => by
    subst d1
    cases x with
    | true =>
      rw [if_pos rfl] at k1
      exact iteT (k1.done r1 rfl)
    | false => exact iteF ⟨B, ρ1, F1, r1, by rwa [if_neg Bool.false_ne_true] at k1⟩⟩
theorem mt_w {a : Expr} {m : Env → MO Bool} (h : MW K xm X a m) : MT K xm X a m := PW.pt h
end
end Du

namespace Du
open PySem PySem.Spec PyProof.Rows L2
/-! ### defs that return a new thing of the caller's own; defs that change a thing that is handed in -/
def outO : Out → Res D
  | .ro d _ => .ok d
  | .ex x _ => .exc x
  | _ => .bad
def runO (np n : Nat) (g : Env → Out) (ds : List D) : Res D := if ds.length = np then outO (g (ent n np ds)) else .bad
def spO (K : PySem.W.Frag) (f : List D → Res D) : Sp := fun vs H Q _ => ∃ ds G, Same G H ∧ DtAll K G vs ds ∧ ∃ d, f ds = .ok d ∧ ∀ p G' H', Gr G H G' H' → H p = none → G' p = none → Ow K G' H' p d → Q (.ref p) H'
section
variable {P : Program} {w : World} {K : PySem.W.Frag} {mg : Str → Option Value} {base : Heap}
theorem spO_len {np n : Nat} {g : Env → Out} {vs : List V} {H : Hp} {Q : VK} {E : XK} (h : spO K (runO np n g) vs H Q E) : vs.length = np := by
  obtain ⟨ds, G, s, hd, d, e, _⟩ := h
  unfold runO at e
  by_cases hn : ds.length = np
  · rw [hd.length, hn]
  · rw [if_neg hn] at e
    cases e
theorem okO {x : Str} {st : Stmt} {N ps : List Str} {k : Nat} {g : Env → Out} (D : Dear.Df K mg x st ps) (S : FnScope N ps (defScope st))
    (body : ∀ (f : Addr) (cdv : Value) (A : Around) (outer : List PySem.Env) (s : Shared) (H : Hp) (E : XK), Room k (A.deeper (envOfC x (defScope st) s.heap.objs.size f cdv)) → FSs K none (cxOf CX0 P w K mg base N x (defScope st) f cdv A outer s H E).nox (defBody st) g)
    (hN : ps.length ≤ N.length := by decide) : Dear.OkF P w K mg base CX0 (k + 1) x ps (spO K (runO ps.length N.length g)) :=
  D.ok S (fun vs H Q E h => spO_len h) fun f cdv A outer s H vs Q E hr h => ⟨_, body f cdv A outer s H E hr, by
    obtain ⟨ds, G, sG, hd, d, e, q⟩ := h
    unfold runO at e
    by_cases hn : ds.length = ps.length
    · rw [if_pos hn] at e
      refine ⟨⟨H, G, 0⟩, _, G, Rl.start sG hd hn hN, ?_⟩
      unfold outO at e
      cases e2 : g (ent N.length ps.length ds) with
      | ro d' ρ =>
        rw [e2] at e
        cases e
        intro p σ' H' F' r fp bp ow
        obtain ⟨G', g1, gp, ow'⟩ := r.done2 sG fp bp ow
        exact q p _ _ g1 bp gp ow'
      | nx ρ => rw [e2] at e; cases e
      | rt d ρ => rw [e2] at e; cases e
      | bk ρ => rw [e2] at e; cases e
      | ct ρ => rw [e2] at e; cases e
      | ex x ρ => rw [e2] at e; cases e
      | bad => rw [e2] at e; cases e
    · rw [if_neg hn] at e
      cases e⟩
/-- whoever wants no more than the value has it -/
theorem okO.ok0 {x : Str} {ps : List Str} {k : Nat} {f : List D → Res D} (h : Dear.OkF P w K mg base CX0 k x ps (spO K f)) : Dear.OkF P w K mg base CX0 k x ps (sp0 K f) := by
  obtain ⟨a, fd, h1, h2, h3, F⟩ := h
  refine ⟨a, fd, h1, h2, h3, F.imp fun vs H Q E ⟨ds, G, s, hd, d, e, q⟩ => ⟨ds, G, s, hd, d, e, fun p G' H' g hp gp ow => ?_⟩⟩
  obtain ⟨o, ho⟩ := ow.some
  exact q _ _ _ (g.freeze hp gp ho) (ow.dt (sm_upd gp) fun u hu => by rw [upd_same, ← hu, ho])
end
section
variable {K : PySem.W.Frag} {xm : XMo} {X : Cx} {B : Bs} {F H : Hp} {σ : St} {ρ : Env} {Dn : Ends}
theorem fw_call {x : Str} {k k' : Nat} {ps : List Str} {f : List D → Res D} {e : Expr} {es : List Expr} {p pos : Pos} {fa : VEnv → Res (List D)} (O : Dear.OkF X.prog X.w X.K X.mg X.base CX0 k x ps (spO K f)) (hr : Room k' X.A) (ha : FA K none X (e :: es) fa) (hk : k ≤ k' := by decide) (hg : Gl X x := by rfl)
    (hdb : (x == ("__debug__" : Str)) = false := by decide) (he : starEach (e :: es) X.env = (false, eval e X.env) :: starEach es X.env := by rfl) (hpl : (backTo pos (starEach es X.env)).any (·.1) = false := by rfl) : FW' K none X (.Call (.Name x p) (e :: es) [] pos) (eCall f fa) :=
  PE.to (Dear.pe_c O hr ha hk hg hdb he hpl) fun σ H Q ⟨F, ρ, sF, vw, k⟩ => ⟨F, ρ, sF, vw, PoW.seq k fun ds vs F1 H1 g1 d1 k1 => by
    refine ⟨ds, F1, g1.fh, by rw [List.append_nil]; exact d1, ?_⟩
    cases e : f ds with
    | ok d => rw [e] at k1; exact ⟨d, rfl, k1⟩
    | exc x => rw [e] at k1; exact k1.elim
    | bad => rw [e] at k1; exact k1.elim⟩
theorem fw_call1 {x : Str} {k k' : Nat} {ps : List Str} {f : List D → Res D} {e : Expr} {es : List Expr} {p pos : Pos} {fa : VEnv → Res (List D)} (O : Dear.OkF X.prog X.w X.K X.mg X.base CX0 k x ps (spO K f)) (hr : Room k' X.A) (ha : FA K xm X (e :: es) fa) (hk : k ≤ k' := by decide) (hg : Gl X x := by rfl)
    (hdb : (x == ("__debug__" : Str)) = false := by decide) (he : starEach (e :: es) X.env = (false, eval e X.env) :: starEach es X.env := by rfl) (hpl : (backTo pos (starEach es X.env)).any (·.1) = false := by rfl) : FW' K xm X (.Call (.Name x p) (e :: es) [] pos) (eCall (nx f) fa) :=
  PE.to (Dear.pe_c O hr ha hk hg hdb he hpl) fun σ H Q ⟨F, ρ, sF, vw, k⟩ => ⟨F, ρ, sF, vw, PoW.seq k fun ds vs F1 H1 g1 d1 k1 => by
    refine ⟨ds, F1, g1.fh, by rw [List.append_nil]; exact d1, ?_⟩
    unfold nx at k1
    cases e : f ds with
    | ok d => rw [e] at k1; exact ⟨d, rfl, k1⟩
    | exc x => rw [e] at k1; exact k1.elim
    | bad => rw [e] at k1; exact k1.elim⟩
end
/-! a thing that is handed in is changed: the j-th one -/
structure Gx (p : Addr) (F H F' H' : Hp) : Prop where
  hh : ∀ a o, a ≠ p → H a = some o → H' a = some o
  ff : Same F F'
  fh : Same F' H'
  nw : ∀ a o, F' a = some o → F a = some o ∨ H a = none
def spIO (K : PySem.W.Frag) (j : Nat) (f : List D → Res (D × D)) : Sp := fun vs H Q _ => ∃ ds G p o, Same G H ∧ vs.length = ds.length ∧ (∀ i v, i ≠ j → vs[i]? = some v → ∃ d, ds[i]? = some d ∧ Dt K G v d) ∧ vs[j]? = some (.ref p) ∧ ds[j]? = some o ∧ G p = none ∧ Ow K G H p o ∧
  ∃ d o', f ds = .ok (d, o') ∧ ∀ v G' H', Gx p G H G' H' → Dt K G' v d → Ow K G' H' p o' → Q v H'
section
variable {K : PySem.W.Frag} {xm : XMo} {X : Cx} {B : Bs} {F H : Hp} {σ : St} {ρ : Env} {Dn : Ends}
/-- behind the change of an own thing -/
theorem Rl.changed (r : Rl K B σ H ρ F) {i : Nat} {t : Bool} {p : Addr} {d d' : D} {F' H' : Hp} (hi : ρ[i]? = some (some (.own t d))) (hp : σ[i]? = some (some (.ref p))) (g : Gx p F H F' H') (h : Ow K F' H' p d') : Rl K B σ H' (ρ.set i (some (.own t d'))) F' := by
  obtain ⟨p', q1, q2, q3, q4⟩ := r.ow i _ d hi
  rw [hp] at q1
  cases q1
  have fn : ∀ {a : Addr}, F a = none → (∃ o, H a = some o) → F' a = none := fun {a} fa ⟨o, ho⟩ => by
    cases e : F' a with
    | none => rfl
    | some u =>
      rcases g.nw _ _ e with z | z
      · rw [fa] at z; cases z
      · rw [ho] at z; cases z
  refine ⟨g.fh, fun a u e => g.hh a u (fun z => by rw [z, q3] at e; cases e) (r.bh _ _ e), fun a o u e1 e2 => ?_, by rw [List.length_set, r.len], fun j e he => ?_, fun j t2 e he => ?_, fun j k t1 t2 d1 d2 p' h1 h2 h3 h4 => ?_, fun j e p' h1 h2 => ?_⟩
  · rcases g.nw _ _ e2 with z | z
    · exact r.zf _ _ _ e1 z
    · rw [r.bh _ _ e1] at z; cases z
  · rcases set_cases he with ⟨rfl, q, _⟩ | ⟨hj, q⟩
    · cases q
    · obtain ⟨v, w1, w2⟩ := r.fz j e q
      exact ⟨v, w1, w2.same g.ff⟩
  · rcases set_cases he with ⟨rfl, q, _⟩ | ⟨hj, q⟩
    · cases q
      exact ⟨p, hp, fn q2 q4.some, q3, h⟩
    · obtain ⟨p', w1, w2, w3, w4⟩ := r.ow j _ e q
      refine ⟨p', w1, fn w2 w4.some, w3, w4.mono g.ff fun u hu => g.hh _ _ (fun z => hj ?_) hu⟩
      subst z
      exact r.dj i j _ _ _ _ _ hi q hp w1
  · rcases set_cases h1 with ⟨rfl, q, _⟩ | ⟨hj, q⟩
    · rcases set_cases h2 with ⟨rfl, q', _⟩ | ⟨hk, q'⟩
      · rfl
      · exact r.dj _ k _ _ _ _ p' hi q' h3 h4
    · rcases set_cases h2 with ⟨rfl, q', _⟩ | ⟨hk, q'⟩
      · exact r.dj j _ _ _ _ _ p' q hi h3 h4
      · exact r.dj j k _ _ _ _ p' q q' h3 h4
  · rcases set_cases h1 with ⟨rfl, q, _⟩ | ⟨hj, q⟩
    · cases q
      exact r.pn _ _ _ hi h2
    · exact r.pn j e p' q h2
/-- arguments of which the j-th is the thing at slot i, the others computed -/
def RIO (K : PySem.W.Frag) (j : Nat) (p : Addr) : Hp → List V → List D → Prop := fun F' vs ds => ∃ ws, DtAll K F' ws ds ∧ j ≤ ws.length ∧ vs = ws.insertIdx j (.ref p)
def aIO (K : PySem.W.Frag) (xm : XMo) (j i : Nat) (m : Env → MO (List D)) : TA := fun σ H Q => ∃ B ρ F p, Rl K B σ H ρ F ∧ σ[i]? = some (some (.ref p)) ∧ Pm (RIO K j p) K xm σ B F (m ρ) Q
theorem mio_here {x : Str} {p1 : Pos} {es : List Expr} {m : Env → MO (List D)} (i : Nat) (h : MA K xm X es m) (hN : X.N[i]? = some x := by rfl) (hv : Vis X.env.scope x := by first | exact Or.inl rfl | exact Or.inr (Or.inl rfl) | exact Or.inr (Or.inr rfl)) (hd : (x == ("__debug__" : Str)) = false := by decide)
    (hcd : (x == ("__classdict__" : Str)) = false := by decide) (hs : starEach (.Name x p1 :: es) X.env = (false, eval (.Name x p1) X.env) :: starEach es X.env := by rfl) : PA X (.Name x p1 :: es) (aIO K xm 0 i m) :=
  PA.to (pa_cons (pv i hN hv hd hcd) h hs) fun σ H Q ⟨B, ρ, F, p, r, hp, k⟩ => ⟨.ref p, hp, B, ρ, F, r, Pm.seq (R' := RIO K 0 p) (f := fun a ρ => .ok a ρ) (by
    cases e : m ρ with
    | ok a ρ1 => rw [e] at k; exact k
    | ex x ρ1 => rw [e] at k; exact k
    | bad => rw [e] at k; exact k) fun a ρ1 vs H1 F1 r1 s1 d1 k1 => k1.done r1 ⟨vs, d1, Nat.zero_le _, rfl⟩⟩
theorem mio_cons {e : Expr} {es : List Expr} {j i : Nat} {n : Env → MO D} {m : Env → MO (List D)} (h : ME K xm X e n) (q : PA X es (aIO K xm j i m)) (hs : starEach (e :: es) X.env = (false, eval e X.env) :: starEach es X.env := by rfl) : PA X (e :: es) (aIO K xm (j + 1) i (mCons n m)) :=
  PA.to (pa_cons h q hs) fun σ H Q ⟨B, ρ, F, p, r, hp, k⟩ => ⟨B, ρ, F, r, Pm.seq k fun a ρ1 v H1 F1 r1 s1 d1 k1 => ⟨B, ρ1, F1, p, r1, hp, Pm.seq k1 fun as ρ2 vs H2 F2 r2 s2 ⟨ws, d2, lw, e2⟩ k2 =>
    k2.done r2 ⟨v :: ws, .cons (d1.same s2) d2, by rw [List.length_cons]; omega, by rw [e2]; rfl⟩⟩⟩
/-- f(.., x, ..), x changed -/
def ownS (ρ : Env) (i : Nat) : Option (Bool × D) := match ρ[i]? with
  | some (some (.own t o)) => some (t, o)
  | _ => none
theorem ownS_of {ρ : Env} {i : Nat} {t : Bool} {o : D} (h : ownS ρ i = some (t, o)) : ρ[i]? = some (some (.own t o)) := by
  unfold ownS at h
  split at h
  · rename_i e
    cases h
    exact e
  · cases h
def mIO (j i : Nat) (f : List D → Res (D × D)) (m : Env → MO (List D)) : Env → MO D := fun ρ => match ownS ρ i with
  | some _ => (m ρ).bind fun as ρ1 => match ownS ρ1 i with
    | some (t, o) => match f (as.insertIdx j o) with
      | .ok r => .ok r.1 (ρ1.set i (some (.own t r.2)))
      | _ => .bad
    | none => .bad
  | none => .bad
theorem me_io {x : Str} {k k' : Nat} {ps : List Str} {j i : Nat} {f : List D → Res (D × D)} {e : Expr} {es : List Expr} {p pos : Pos} {m : Env → MO (List D)} (O : Dear.OkF X.prog X.w X.K X.mg X.base CX0 k x ps (spIO K j f)) (hr : Room k' X.A) (ha : PA X (e :: es) (aIO K xm j i m)) (hk : k ≤ k' := by decide) (hg : Gl X x := by rfl)
    (hdb : (x == ("__debug__" : Str)) = false := by decide) (he : starEach (e :: es) X.env = (false, eval e X.env) :: starEach es X.env := by rfl) (hpl : (backTo pos (starEach es X.env)).any (·.1) = false := by rfl) : ME K xm X (.Call (.Name x p) (e :: es) [] pos) (mIO j i f m) :=
  PE.to (Dear.pe_c O hr ha hk hg hdb he hpl) fun σ H Q ⟨B, ρ, F, r, k⟩ => by
    unfold mIO at k
    cases e0 : ownS ρ i with
    | none => rw [e0] at k; exact k.elim
    | some o0 =>
      obtain ⟨t0, o0⟩ := o0
      rw [e0] at k
      obtain ⟨p, hp, _⟩ := r.ow i _ _ (ownS_of e0)
      refine ⟨B, ρ, F, p, r, hp, Pm.seq (R' := RD K) k fun as ρ1 vs H1 F1 r1 s1 ⟨ws, d1, lw, ev⟩ k1 => ?_⟩
      cases e1 : ownS ρ1 i with
      | none => rw [e1] at k1; exact k1.elim
      | some o =>
        obtain ⟨t, o⟩ := o
        rw [e1] at k1
        dsimp only at k1
        obtain ⟨p', hp', q2, q3, q4⟩ := r1.ow i _ _ (ownS_of e1)
        rw [hp] at hp'
        cases hp'
        cases e2 : f (as.insertIdx j o) with
        | exc x => rw [e2] at k1; exact k1.elim
        | bad => rw [e2] at k1; exact k1.elim
        | ok rr =>
          rw [e2] at k1
          dsimp only at k1
          have la := d1.length
          refine ⟨as.insertIdx j o, F1, p, o, r1.fh, ?_, fun n v hn hv => ?_, ?_, ?_, q2, q4, rr.1, rr.2, e2, fun v G' H' g dv ow => k1 v H' G' (r1.changed (ownS_of e1) hp g ow) g.ff dv⟩
          · rw [ev, List.append_nil, List.length_insertIdx, List.length_insertIdx, la]
          · rw [ev, List.append_nil, List.getElem?_insertIdx] at hv
            rw [List.getElem?_insertIdx]
            by_cases c1 : n < j
            · rw [if_pos c1] at hv ⊢
              exact d1.get hv
            · rw [if_neg c1, if_neg hn] at hv ⊢
              exact d1.get hv
          · rw [ev, List.append_nil, List.getElem?_insertIdx, if_neg (Nat.lt_irrefl _), if_pos rfl, if_pos lw]
          · rw [List.getElem?_insertIdx, if_neg (Nat.lt_irrefl _), if_pos rfl, if_pos (by omega)]
end
/-! such a def -/
def entIO (n np j : Nat) (ds : List D) : Env := match ds[j]? with
  | some o => (ent n np ds).set j (some (.own true o))
  | none => []
def outIO (j : Nat) : Out → Res (D × D)
  | .nx ρ => match ownS ρ j with
    | some (true, o) => .ok (.non, o)
    | _ => .bad
  | .rt d ρ => match ownS ρ j with
    | some (true, o) => .ok (d, o)
    | _ => .bad
  | _ => .bad
def runIO (np n j : Nat) (g : Env → Out) (ds : List D) : Res (D × D) := if ds.length = np then outIO j (g (entIO n np j ds)) else .bad
section
variable {P : Program} {w : World} {K : PySem.W.Frag} {mg : Str → Option Value} {base : Heap}
theorem Rl.startIO {N : List Str} {vs : List V} {ds : List D} {G H : Hp} {np j : Nat} {p : Addr} {o : D} (s : Same G H) (hl : vs.length = ds.length) (h : ∀ i v, i ≠ j → vs[i]? = some v → ∃ d, ds[i]? = some d ∧ Dt K G v d) (hp : vs[j]? = some (.ref p)) (ho : ds[j]? = some o) (gp : G p = none) (ow : Ow K G H p o) (hn : ds.length = np) (hN : np ≤ N.length) :
    Rl K ⟨fun a => if a = p then none else H a, G, p⟩ (L2.start N vs) H (entIO N.length np j ds) G := by
  have ee : entIO N.length np j ds = (ent N.length np ds).set j (some (.own true o)) := by unfold entIO; rw [ho]
  rw [ee]
  refine ⟨s, fun a u e => ?_, fun a o u _ e => ⟨u, e⟩, ?_, fun i d e => ?_, fun i t d e => ?_, fun i j' t u d e q h1 h2 h3 h4 => ?_, fun i d q h1 h2 => ?_⟩
  · have e : (if a = p then none else H a) = some u := e
    split at e
    · cases e
    · exact e
  · unfold L2.start ent
    rw [List.length_set, List.length_append, List.length_append, List.length_map, List.length_map, List.length_replicate, List.length_replicate, hl]
    omega
  · rcases set_cases e with ⟨rfl, q, _⟩ | ⟨hi, q⟩
    · cases q
    · obtain ⟨d', h1, h2⟩ := ent_get q
      cases h2
      have hi2 : i < vs.length := by rw [hl]; exact (List.getElem?_eq_some_iff.mp h1).1
      obtain ⟨d2, q1, q2⟩ := h i vs[i] (Ne.symm hi) (List.getElem?_eq_getElem hi2)
      rw [h1] at q1
      cases q1
      exact ⟨_, start_get (List.getElem?_eq_getElem hi2), q2⟩
  · rcases set_cases e with ⟨rfl, q, _⟩ | ⟨hi, q⟩
    · cases q
      exact ⟨p, start_get hp, gp, if_pos rfl, ow⟩
    · obtain ⟨d', _, h2⟩ := ent_get q
      cases h2
  · rcases set_cases h1 with ⟨rfl, q, _⟩ | ⟨hi, q⟩
    · rcases set_cases h2 with ⟨rfl, q, _⟩ | ⟨hi, q⟩
      · rfl
      · obtain ⟨d', _, h2⟩ := ent_get q
        cases h2
    · obtain ⟨d', _, h2⟩ := ent_get q
      cases h2
  · rcases set_cases h1 with ⟨rfl, q', _⟩ | ⟨hi, q'⟩
    · rw [start_get hp] at h2
      cases h2
      rfl
    · obtain ⟨d', _, h2⟩ := ent_get q'
      cases h2
theorem Rl.doneIO {G H H' F' : Hp} {σ : St} {ρ : Env} {p : Addr} {o : D} (r : Rl K ⟨fun a => if a = p then none else H a, G, p⟩ σ H' ρ F') (s : Same G H) (gp : G p = none) (hp : ∃ u, H p = some u) (fp : F' p = none) (ow : Ow K F' H' p o) : ∃ G', Gx p G H G' H' ∧ Same F' G' ∧ Ow K G' H' p o := by
  have sG : Same G H' := fun a u e => by
    have ne : a ≠ p := fun z => by rw [z, gp] at e; cases e
    refine r.bh a u ?_
    show (if a = p then none else H a) = some u
    rw [if_neg ne]
    exact s _ _ e
  refine ⟨both F' G, ⟨fun a u ne e => r.bh a u (by show (if a = p then none else H a) = some u; rw [if_neg ne]; exact e), both_r r.fh sG, both_in r.fh sG, fun a u e => ?_⟩, both_l, ow.mono both_l fun _ h => h⟩
  rcases both_cases e with z | z
  · cases q : H a with
    | none => exact .inr rfl
    | some t =>
      have ne : a ≠ p := fun y => by rw [y, fp] at z; cases z
      obtain ⟨v, hv⟩ := r.zf a t u (by show (if a = p then none else H a) = some t; rw [if_neg ne]; exact q) z
      have e1 := r.fh _ _ z
      have e2 := sG _ _ hv
      rw [e1] at e2
      cases e2
      exact .inl hv
  · exact .inl z
theorem okIO {x : Str} {st : Stmt} {N ps : List Str} {k : Nat} {g : Env → Out} (j : Nat) (D : Dear.Df K mg x st ps) (S : FnScope N ps (defScope st))
    (body : ∀ (f : Addr) (cdv : Value) (A : Around) (outer : List PySem.Env) (s : Shared) (H : Hp) (E : XK), Room k (A.deeper (envOfC x (defScope st) s.heap.objs.size f cdv)) → FSs K none (cxOf CX0 P w K mg base N x (defScope st) f cdv A outer s H E).nox (defBody st) g)
    (hN : ps.length ≤ N.length := by decide) : Dear.OkF P w K mg base CX0 (k + 1) x ps (spIO K j (runIO ps.length N.length j g)) :=
  D.ok S (fun vs H Q E h => by
    obtain ⟨ds, G, p, o, s, hl, _, _, _, _, _, d, o', e, _⟩ := h
    unfold runIO at e
    by_cases hn : ds.length = ps.length
    · rw [hl, hn]
    · rw [if_neg hn] at e
      cases e) fun f cdv A outer s H vs Q E hr h => ⟨_, body f cdv A outer s H E hr, by
    obtain ⟨ds, G, p, o, sG, hl, hd, hp, ho, gp, ow, d, o', e, q⟩ := h
    unfold runIO at e
    by_cases hn : ds.length = ps.length
    · rw [if_pos hn] at e
      refine ⟨_, _, G, Rl.startIO sG hl hd hp ho gp ow hn hN, ?_⟩
      obtain ⟨u, hu⟩ := ow.some
      unfold outIO at e
      cases e2 : g (entIO N.length ps.length j ds) with
      | nx ρ =>
        rw [e2] at e
        dsimp only at e
        intro σ' H' F' r
        cases e3 : ownS ρ j with
        | none => rw [e3] at e; cases e
        | some tq =>
          obtain ⟨t, o2⟩ := tq
          cases t with
          | false => rw [e3] at e; cases e
          | true =>
            rw [e3] at e
            cases e
            obtain ⟨p', w1, w2, w3, w4⟩ := r.ow j _ _ (ownS_of e3)
            have := r.pn j _ _ (ownS_of e3) w1
            subst this
            obtain ⟨G', g1, s1, ow1⟩ := r.doneIO sG gp ⟨u, hu⟩ w2 w4
            exact q _ _ _ g1 .non ow1
      | rt d' ρ =>
        rw [e2] at e
        dsimp only at e
        intro v σ' H' F' r dv
        cases e3 : ownS ρ j with
        | none => rw [e3] at e; cases e
        | some tq =>
          obtain ⟨t, o2⟩ := tq
          cases t with
          | false => rw [e3] at e; cases e
          | true =>
            rw [e3] at e
            cases e
            obtain ⟨p', w1, w2, w3, w4⟩ := r.ow j _ _ (ownS_of e3)
            have := r.pn j _ _ (ownS_of e3) w1
            subst this
            obtain ⟨G', g1, s1, ow1⟩ := r.doneIO sG gp ⟨u, hu⟩ w2 w4
            exact q _ _ _ g1 (dv.same s1) ow1
      | ro d ρ => rw [e2] at e; cases e
      | bk ρ => rw [e2] at e; cases e
      | ct ρ => rw [e2] at e; cases e
      | ex x ρ => rw [e2] at e; cases e
      | bad => rw [e2] at e; cases e
    · rw [if_neg hn] at e
      cases e⟩
end
end Du

namespace Du
open PySem PySem.Spec PyProof.Rows L2
section
variable {K : PySem.W.Frag} {xm : XMo} {X : Cx} {B : Bs} {F H : Hp} {σ : St} {ρ : Env} {Dn : Ends}
/-! ### statements over expressions with state -/
def mAt {α : Type} (m : Env → MO α) (ρ : Env) (k : α → Env → Out) : Out := match m ρ with
  | .ok a ρ1 => k a ρ1
  | .ex x ρ1 => .ex x ρ1
  | .bad => .bad
theorem pm_at {α ω : Type} {R : Hp → ω → α → Prop} {m : Env → MO α} {k : α → Env → Out} {Q : ω → Hp → Prop} (r : Rl K B σ H ρ F) (h : So K xm B Dn (mAt m ρ k)) (n : ∀ a ρ1 w H' F', Rl K B σ H' ρ1 F' → R F' w a → Same F F' → So K xm B Dn (k a ρ1) → Q w H') : Pm R K xm σ B F (m ρ) Q := by
  unfold mAt at h
  cases e : m ρ with
  | ok a ρ1 =>
    rw [e] at h
    exact fun w H' F' r' s d => n a ρ1 w H' F' r' d s h
  | ex x ρ1 =>
    rw [e] at h
    cases xm with
    | none => exact h
    | some m => exact fun C dd H' F' r' hx => h C dd σ H' F' r' hx
  | bad => rw [e] at h; exact h
def sAsgM (m : Env → MO D) (tg : Tgt) : Env → Out := fun ρ => mAt m ρ fun d ρ1 => match tg d with
  | .ok as => .nx (setS ρ1 as)
  | _ => .bad
theorem fs_asgM {tg e : Expr} {m : Env → MO D} {g : Tgt} {pos : Pos} (he : ME K xm X e m) (hg : FG K X tg g) (hs : swapsWithSole [tg] e pos.line X.env = pure false := by rfl) (hw : swappedStores [tg] e X.env = pure none := by rfl)
    (h1 : (assignEach [tg] X.env).map (·.2) = [assign tg X.env] := by rfl) : FS K xm X (.Assign [tg] e pos) (sAsgM m g) :=
  PS.to (ps_asg he hg hs hw h1) fun Dn σ H ⟨B, ρ, F, r, k⟩ => ⟨B, ρ, F, r, pm_at r k fun d ρ1 v H' F' r' dv _ k' => by
    cases e : g d with
    | ok as =>
      rw [e] at k'
      exact ⟨F', d, as, r'.fh, dv, e, fun bs hb => k' _ _ _ (r'.setAll hb)⟩
    | exc x => rw [e] at k'; exact k'.elim
    | bad => rw [e] at k'; exact k'.elim⟩
def sExprM (m : Env → MO D) : Env → Out := fun ρ => mAt m ρ fun _ ρ1 => .nx ρ1
theorem fs_exprM {e : Expr} {m : Env → MO D} {pos : Pos} (he : ME K xm X e m) (hs : swapsWith e none pos.line X.env = pure false := by rfl) : FS K xm X (.Expr e pos) (sExprM m) :=
  PS.to (ps_expr he hs) fun Dn σ H ⟨B, ρ, F, r, k⟩ => ⟨B, ρ, F, r, pm_at r k fun d ρ1 v H' F' r' dv _ k' => k' _ _ _ r'⟩
def sRetM (m : Env → MO D) : Env → Out := fun ρ => mAt m ρ fun d ρ1 => .rt d ρ1
theorem fs_retM {e : Expr} {m : Env → MO D} {pos : Pos} (he : ME K xm X e m) : FS K xm X (.Return (some e) pos) (sRetM m) :=
  PS.to (ps_ret he) fun Dn σ H ⟨B, ρ, F, r, k⟩ => ⟨B, ρ, F, r, pm_at r k fun d ρ1 v H' F' r' dv _ k' => k' _ _ _ _ r' dv⟩
def sIfM (m : Env → MO Bool) (g h : Env → Out) : Env → Out := fun ρ => mAt m ρ fun b ρ1 => if b = true then g ρ1 else h ρ1
theorem fs_ifM {c : Expr} {a b : List Stmt} {m : Env → MO Bool} {g h : Env → Out} {pos : Pos} (hc : MT K xm X c m) (ha : FSs K xm X a g) (hb : FSs K xm X b h) : FS K xm X (.If c a b pos) (sIfM m g h) :=
  PS.to (ps_if hc ha hb) fun Dn σ H ⟨B, ρ, F, r, k⟩ => ⟨B, ρ, F, r, pm_at (R := RB) r k fun b ρ1 w H' F' r' e _ k' => by
    subst e
    cases w with
    | true => exact iteT ⟨B, ρ1, F', r', by rwa [if_pos rfl] at k'⟩
    | false => exact iteF ⟨B, ρ1, F', r', by rwa [if_neg Bool.false_ne_true] at k'⟩⟩
def sAppM (i : Nat) (m : Env → MO D) : Env → Out := fun ρ => mAt m ρ fun d ρ1 => chg ρ1 i fun ds => if fit ds.length = true then some (ds ++ [d]) else none
theorem fs_appM {x : Str} {e : Expr} {m : Env → MO D} {p1 apos cpos pos : Pos} (i : Nat) (he : ME K xm X e m) (hN : X.N[i]? = some x := by rfl) (hv : Vis X.env.scope x := by first | exact Or.inl rfl | exact Or.inr (Or.inl rfl) | exact Or.inr (Or.inr rfl)) (hd : (x == ("__debug__" : Str)) = false := by decide)
    (hcd : (x == ("__classdict__" : Str)) = false := by decide) (hbase : attributeBase (.Name x p1) "append" X.env (eval (.Name x p1) X.env) = eval (.Name x p1) X.env := by rfl)
    (hfew : ((backTo cpos (starEach [e] X.env)).all (fun x => !x.1) && (backToKw cpos (keywordEach [] X.env)).all (fun x => x.1.isSome) && decide (([e] : List Expr).length + ([] : List Keyword).length + (if ([] : List Keyword).isEmpty then 0 else 1) < 30)) = true := by rfl)
    (hline : (apos.endLine == cpos.line) = true := by rfl) (hs : starEach [e] X.env = (false, eval e X.env) :: starEach [] X.env := by rfl) (hplain : (backTo cpos (starEach [] X.env)).any (·.1) = false := by rfl)
    (hsw : swapsWith (.Call (.Attribute (.Name x p1) "append" apos) [e] [] cpos) none pos.line X.env = pure false := by rfl) : FS K xm X (.Expr (.Call (.Attribute (.Name x p1) "append" apos) [e] [] cpos) pos) (need i (sAppM i m)) :=
  PS.to (ps_expr (pe_bm PySem.F.plainAttrs_list PySem.F.slot_list_append PySem.F.type_list_append mt_append (pv i hN hv hd hcd) (pa_cons he pa_nil hs) hbase hfew hline hs hplain) hsw) fun Dn σ H ⟨B, ρ, F, r, k⟩ => by
    obtain ⟨⟨t, ds, hi⟩, k⟩ := k.needE
    obtain ⟨p, xs, q1, q2, q3, q4⟩ := r.ownAt hi
    refine ⟨.ref p, q1, .inl ⟨rfl, _, SqL.of q2⟩, B, ρ, F, r, pm_at (R := RD K) r k fun d ρ1 v H' F' r' dv _ k' => ?_⟩
    obtain ⟨t', ds', es, h1, h2, k2⟩ := k'.chgE
    obtain ⟨p', xs', w1, w2, w3, w4⟩ := r'.ownAt h1
    rw [q1] at w1
    cases w1
    by_cases f : fit ds'.length = true
    · rw [if_pos f] at h2
      cases h2
      refine ⟨p, xs', v, rfl, rfl, w2, by rw [w3.length]; exact fit_line f, k2 _ _ _ (r'.write h1 q1 ⟨_, upd_same, w3.app (.cons dv .nil)⟩)⟩
    · rw [if_neg f] at h2
      cases h2
/-! x[k] = e, e with state -/
def sPutLM (i : Nat) (m : Env → MO D) (fk : VEnv → Res D) : Env → Out := fun ρ => mAt m ρ fun d ρ1 => need i (fun ρ' => eAt [] fk ρ' fun n => match n with
  | .int n => chg ρ' i fun ds => match ixN ds.length n with
    | some j => some (ds.set j d)
    | none => none
  | _ => .bad) ρ1
theorem fs_putLM {x : Str} {e ik : Expr} {m : Env → MO D} {fk : VEnv → Res D} {p1 p2 pos : Pos} (i : Nat) (he : ME K xm X e m) (hk : FE K xm X ik fk) (hN : X.N[i]? = some x := by rfl) (hv : Vis X.env.scope x := by first | exact Or.inl rfl | exact Or.inr (Or.inl rfl) | exact Or.inr (Or.inr rfl)) (hd : (x == ("__debug__" : Str)) = false := by decide)
    (hcd : (x == ("__classdict__" : Str)) = false := by decide) (ha : ∀ v, assign (.Subscript (.Name x p1) ik p2) X.env v = (do
      let ov ← holding [v] (eval (.Name x p1) X.env)
      let iv ← holding [v, ov] (eval ik X.env)
      standAt p2
      holding [v, ov, iv] (setItem ov iv v)
      release [v, ov, iv] []) := by intro _; rfl) (hs : swapsWithSole [.Subscript (.Name x p1) ik p2] e pos.line X.env = pure false := by rfl) (hw : swappedStores [.Subscript (.Name x p1) ik p2] e X.env = pure none := by rfl)
    (h1 : (assignEach [.Subscript (.Name x p1) ik p2] X.env).map (·.2) = [assign (.Subscript (.Name x p1) ik p2) X.env] := by rfl) : FS K xm X (.Assign [.Subscript (.Name x p1) ik p2] e pos) (sPutLM i m fk) :=
  PS.to (ps_asg he (pg_sub (pv i hN hv hd hcd) hk set_list ha) hs hw h1) fun Dn σ H ⟨B, ρ, F, r, k⟩ => ⟨B, ρ, F, r, pm_at (R := RD K) r k fun d ρ1 v H' F' r' dv _ k' => by
    obtain ⟨⟨t, ds, hi⟩, k'⟩ := k'.needE
    obtain ⟨p, xs, q1, q2, q3, q4⟩ := r'.ownAt hi
    refine ⟨.ref p, q1, tF.at r' k' fun n w H2 F2 en r2 dw f2 h2 k2 => ?_⟩
    rw [aft_nil] at r2
    clear en
    split at k2
    · rename_i n
      obtain ⟨t', ds', es, h1, h3, k3⟩ := k2.chgE
      obtain ⟨p', xs', w1, w2, w3, w4⟩ := r2.ownAt h1
      rw [q1] at w1
      cases w1
      split at h3
      · rename_i j ej
        cases h3
        rw [dw.intE]
        exact ⟨p, xs', n, j, rfl, rfl, w2, by rw [w3.length]; exact ej, k3 _ _ _ (r2.write h1 q1 ⟨_, upd_same, DtAll.set (dv.same f2) _ w3⟩)⟩
      · cases h3
    · exact k2.elim⟩
/-! ### comprehensions whose parts have state -/
def wipeS (ρ : Env) : List Nat → Env
  | [] => ρ
  | v :: vs => (wipeS ρ vs).set v none
theorem wipeS_get (σ : Env) (j : Nat) : ∀ vs : List Nat, (wipeS σ vs)[j]? = if j ∈ vs then σ[j]?.map (fun _ => none) else σ[j]?
  | [] => by simp [wipeS]
  | v :: vs => by
    unfold wipeS
    have wl : ∀ vs : List Nat, (wipeS σ vs).length = σ.length := by
      intro vs
      induction vs with
      | nil => rfl
      | cons a r ih => unfold wipeS; rw [List.length_set, ih]
    rw [List.getElem?_set]
    by_cases h : v = j
    · subst h
      rw [if_pos rfl, if_pos List.mem_cons_self, wl]
      by_cases hl : v < σ.length
      · rw [if_pos hl, List.getElem?_eq_getElem hl]; rfl
      · rw [if_neg hl, List.getElem?_eq_none (by omega)]; rfl
    · rw [if_neg h, wipeS_get σ j vs]
      have : (j ∈ v :: vs) ↔ j ∈ vs := ⟨fun q => (List.mem_cons.mp q).elim (fun e => absurd e.symm h) id, List.mem_cons_of_mem _⟩
      by_cases hj : j ∈ vs
      · rw [if_pos hj, if_pos (this.mpr hj)]
      · rw [if_neg hj, if_neg fun q => hj (this.mp q)]
theorem wipeS_len (σ : Env) : ∀ vs : List Nat, (wipeS σ vs).length = σ.length
  | [] => rfl
  | a :: r => by unfold wipeS; rw [List.length_set, wipeS_len σ r]
/-- slots of other values outside of those that are forgotten -/
theorem Rl.other {σ' : St} (r : Rl K B σ H ρ F) {vs : List Nat} (hw : wipe σ' vs = wipe σ vs) : Rl K B σ' H (wipeS ρ vs) F := by
  have g : ∀ {i : Nat} {s : Slot}, (wipeS ρ vs)[i]? = some (some s) → ρ[i]? = some (some s) ∧ σ'[i]? = σ[i]? := fun {i s} e => by
    rw [wipeS_get] at e
    by_cases hj : i ∈ vs
    · rw [if_pos hj] at e
      obtain ⟨a, h1, h2⟩ := Option.map_eq_some_iff.mp e
      cases h2
    · rw [if_neg hj] at e
      have := congrArg (fun l => l[i]?) hw
      simp only [wipe_get, if_neg hj] at this
      exact ⟨e, this⟩
  have hl : σ'.length = σ.length := by
    have := congrArg List.length hw
    rwa [wipe_length, wipe_length] at this
  refine ⟨r.fh, r.bh, r.zf, by rw [hl, wipeS_len, r.len], fun i d e => ?_, fun i t d e => ?_, fun i j t u d e p h1 h2 h3 h4 => ?_, fun i d p h1 h2 => ?_⟩
  · obtain ⟨h1, h2⟩ := g e
    rw [h2]
    exact r.fz i d h1
  · obtain ⟨h1, h2⟩ := g e
    rw [h2]
    exact r.ow i t d h1
  · obtain ⟨a1, a2⟩ := g h1
    obtain ⟨b1, b2⟩ := g h2
    rw [a2] at h3
    rw [b2] at h4
    exact r.dj i j t u d e p a1 b1 h3 h4
  · obtain ⟨a1, a2⟩ := g h1
    rw [a2] at h2
    exact r.pn i d p a1 h2
def compM (tg : Tgt) (c : Env → MO Bool) (f : Env → MO D) (vs : List Nat) : List D → Env → MO (List D)
  | [], ρ => .ok [] ρ
  | d :: ds, ρ => match tg d with
    | .ok as => if as.all (fun p => vs.contains p.1) = true then (c (setS (wipeS ρ vs) as)).bind fun b ρ1 => if b = true then (f ρ1).bind fun e ρ2 => (compM tg c f vs ds (wipeS ρ2 vs)).bind fun es ρ3 => .ok (e :: es) ρ3 else compM tg c f vs ds (wipeS ρ1 vs) else .bad
    | _ => .bad
def mComp (vs : List Nat) (L : List Nat) (it : VEnv → Res (List D)) (tg : Tgt) (c : Env → MO Bool) (f : Env → MO D) : Env → MO D := fun ρ => match it (view L ρ) with
  | .ok ds => if fit ds.length = true then match compM tg c f vs ds (wipeS (shut L ρ) vs) with
    | .ok es ρ1 => .ok (.lst es) ρ1
    | _ => .bad else .bad
  | .exc x => .ex x (shut L ρ)
  | .bad => .bad
abbrev MTs (K : PySem.W.Frag) (X : Cx) (ifs : List Expr) (c : Env → MO Bool) : Prop := PTs X ifs (bM K none c)
def mYes : Env → MO Bool := fun ρ => .ok true ρ
theorem mts_nil : MTs K X [] mYes := PTs.to pts_nil fun σ H Q ⟨B, ρ, F, r, k⟩ => k.done r rfl
theorem mts_one {c : Expr} {m : Env → MO Bool} (h : MT K none X c m) : MTs K X [c] m := pts_one h
theorem BM.ok {α β : Type} {r : MO α} {f : α → Env → MO β} {b : β} {ρ : Env} (h : r.bind f = .ok b ρ) : ∃ a ρ1, r = .ok a ρ1 ∧ f a ρ1 = .ok b ρ := by
  cases r with
  | ok a ρ1 => exact ⟨a, ρ1, rfl, h⟩
  | ex x ρ1 => cases h
  | bad => cases h
/-- the base while the list at p is being made -/
def making (B : Bs) (p : Addr) (acc : List V) : Bs := ⟨upd B.b p (.lst acc), fun a => if a = p then none else B.g a, B.pin⟩
theorem making_up {p : Addr} {acc acc' : List V} {F' H' : Hp} (r : Rl K (making B p acc) σ H' ρ F') : Rl K (making B p acc') σ (upd H' p (.lst acc')) ρ F' := by
  have fp : F' p = none := by
    cases e : F' p with
    | none => rfl
    | some u =>
      obtain ⟨v, hv⟩ := r.zf p _ u upd_same e
      have : (if p = p then none else B.g p) = some v := hv
      rw [if_pos rfl] at this
      cases this
  refine ⟨fun a o e => ?_, fun a o e => ?_, fun a o u e1 e2 => ?_, r.len, r.fz, fun i t d e => ?_, r.dj, r.pn⟩
  · rw [upd_ne fun z => by rw [z, fp] at e; cases e]
    exact r.fh _ _ e
  · by_cases z : a = p
    · subst z
      have e : upd B.b a (.lst acc') a = some o := e
      rw [upd_same] at e ⊢
      exact e
    · have e : upd B.b p (.lst acc') a = some o := e
      rw [upd_ne z] at e ⊢
      exact r.bh a o (by show upd B.b p (.lst acc) a = some o; rw [upd_ne z]; exact e)
  · by_cases z : a = p
    · subst z
      rw [fp] at e2; cases e2
    · have e1 : upd B.b p (.lst acc') a = some o := e1
      rw [upd_ne z] at e1
      exact r.zf a o u (by show upd B.b p (.lst acc) a = some o; rw [upd_ne z]; exact e1) e2
  · obtain ⟨q, w1, w2, w3, w4⟩ := r.ow i t d e
    have ne : q ≠ p := fun z => by
      subst z
      have w3 : upd B.b q (.lst acc) q = none := w3
      rw [upd_same] at w3
      cases w3
    have w3 : upd B.b p (.lst acc) q = none := w3
    refine ⟨q, w1, w2, ?_, w4.mono (.refl _) fun o ho => by rw [upd_ne ne]; exact ho⟩
    show upd B.b p (.lst acc') q = none
    rw [upd_ne ne] at w3 ⊢
    exact w3
theorem making_p {p : Addr} {acc : List V} {F' H' : Hp} (r : Rl K (making B p acc) σ H' ρ F') : F' p = none ∧ H' p = some (.lst acc) := by
  refine ⟨?_, r.bh p _ upd_same⟩
  cases e : F' p with
  | none => rfl
  | some u =>
    obtain ⟨v, hv⟩ := r.zf p _ u upd_same e
    have : (if p = p then none else B.g p) = some v := hv
    rw [if_pos rfl] at this
    cases this
theorem compM_loop {J : It} {tg : Tgt} {c : Env → MO Bool} {f : Env → MO D} {vs : List Nat} {ds es : List D} {ρe : Env} {p : Addr} {Q : VK} (r : Rl K B σ H ρ F) (y : Yl K F J ds) (hp : H p = none) (hz : fit ds.length = true)
    (hc : compM tg c f vs ds (wipeS ρ vs) = .ok es ρe) (k : ∀ F' H' acc, Rl K B σ H' ρe F' → Same F F' → F' p = none → B.b p = none → H' p = some (.lst acc) → DtAll K F' acc es → (∀ (j : Nat) (t : Bool) (e : D), ρe[j]? = some (some (.own t e)) → σ[j]? ≠ some (some (.ref p))) → Q (.ref p) H') :
    ∃ W : Nat → Nat → Hp → Prop, (∃ m, W 0 m (upd H p (.lst []))) ∧ ∀ i m H, W i m H →
      (J.stop i H ∧ Q (.ref p) H) ∨ (J.go i H ∧ ∃ Nx : Hp → Prop, (∀ H', Nx H' → ∃ m', m' < m ∧ W (i + 1) m' H') ∧ ∀ x H', J.yld i H x H' → gF K tg x (wipe σ vs) H' fun σ2 H2 => wipe σ2 vs = wipe σ vs ∧ bM K none c σ2 H2 fun b H3 =>
        if b = true then tM K none f σ2 H3 fun y H4 => ∃ acc, H4 p = some (.lst acc) ∧ acc.length < sizeLine ∧ Nx (upd H4 p (.lst (acc ++ [y]))) else Nx H3) := by
  obtain ⟨B1, sB, sF1, sF2, r1⟩ := r.base
  have bp : B.b p = none := r.bh.free hp
  have b1p : B1.b p = none := r1.bh.free hp
  let St' : Nat → Hp → Prop := fun i H2 => ∃ ρ2 F2 acc da rest, Rl K (making B1 p acc) σ H2 ρ2 F2 ∧ Same F F2 ∧ DtAll K F2 acc da ∧ acc.length ≤ i ∧ compM tg c f vs (ds.drop i) ρ2 = .ok rest ρe ∧ da ++ rest = es
  have start : St' 0 (upd H p (.lst [])) := by
    have ro : Rl K B1 σ H (wipeS ρ vs) F := r1.other (σ' := σ) (vs := vs) rfl
    have fp : F p = none := r.fh.free hp
    refine ⟨wipeS ρ vs, F, [], [], es, ⟨r.fh.trans (sm_upd hp), fun a o e => ?_, fun a o u e1 e2 => ?_, ro.len, ro.fz, fun i t d e => ?_, ro.dj, ro.pn⟩, .refl _, .nil, Nat.le_refl _, hc, rfl⟩
    · by_cases z : a = p
      · subst z
        have e : upd B1.b a (.lst []) a = some o := e
        rw [upd_same] at e ⊢
        exact e
      · have e : upd B1.b p (.lst []) a = some o := e
        rw [upd_ne z] at e ⊢
        exact ro.bh _ _ e
    · by_cases z : a = p
      · subst z
        rw [fp] at e2; cases e2
      · have e1 : upd B1.b p (.lst []) a = some o := e1
        rw [upd_ne z] at e1
        obtain ⟨v, hv⟩ := ro.zf a o u e1 e2
        exact ⟨v, by show (if a = p then none else B1.g a) = some v; rw [if_neg z]; exact hv⟩
    · obtain ⟨q, w1, w2, w3, w4⟩ := ro.ow i t d e
      have ne : q ≠ p := fun z => by
        subst z
        obtain ⟨o, ho⟩ := w4.some
        rw [hp] at ho; cases ho
      refine ⟨q, w1, w2, ?_, w4.mono (.refl _) fun o ho => by rw [upd_ne ne]; exact ho⟩
      show upd B1.b p (.lst []) q = none
      rw [upd_ne ne]
      exact w3
  refine ⟨fun i m H2 => m = ds.length - i ∧ i ≤ ds.length ∧ St' i H2, ⟨ds.length, by simp, Nat.zero_le _, start⟩, ?_⟩
  rintro i m H2 ⟨rfl, hi, ρ2, F2, acc, da, rest, r2, s2, dd, la, hr, he⟩
  by_cases hlt : i < ds.length
  · refine .inr ⟨y.go i H2 hlt (s2.trans r2.fh), St' (i + 1), fun H' p' => ⟨ds.length - (i + 1), by omega, rfl, hlt, p'⟩, fun x H3 yx => ?_⟩
    obtain ⟨F3, g3, dx⟩ := y.yld i ds[i] F2 H2 x H3 (List.getElem?_eq_getElem hlt) s2 r2.fh yx
    rw [List.drop_eq_getElem_cons hlt] at hr
    unfold compM at hr
    cases e1 : tg ds[i] with
    | exc x => rw [e1] at hr; cases hr
    | bad => rw [e1] at hr; cases hr
    | ok as =>
      rw [e1] at hr
      dsimp only at hr
      by_cases ha : as.all (fun p => vs.contains p.1) = true
      · rw [if_pos ha] at hr
        obtain ⟨b, ρ3, ec, hr⟩ := BM.ok hr
        have r3 := r2.grow g3
        refine ⟨F3, ds[i], as, g3.fh, dx, e1, fun bs hb => ⟨by rw [wipe_setAll (hb.slots ha), wipe_wipe], ?_⟩⟩
        have hw : wipe (Du.setAll (wipe σ vs) bs) vs = wipe σ vs := by rw [wipe_setAll (hb.slots ha), wipe_wipe]
        have r4 : Rl K (making B1 p acc) (Du.setAll (wipe σ vs) bs) H3 (setS (wipeS ρ2 vs) as) F3 := (r3.other (σ' := wipe σ vs) (vs := vs) (wipe_wipe σ vs)).setAll hb
        refine ⟨_, _, F3, r4, ?_⟩
        rw [ec]
        intro b' H4 F4 r5 s5 hb'
        subst hb'
        cases b' with
        | false =>
          rw [if_neg Bool.false_ne_true] at hr
          refine iteF ⟨_, F4, acc, da, rest, r5.other (vs := vs) hw.symm, (s2.trans g3.ff).trans s5, dd.same (g3.ff.trans s5), by omega, hr, he⟩
        | true =>
          rw [if_pos rfl] at hr
          obtain ⟨e, ρ4, ef, hr⟩ := BM.ok hr
          obtain ⟨rs, ρ5, er, hr⟩ := BM.ok hr
          cases hr
          refine iteT ⟨_, _, F4, r5, ?_⟩
          rw [ef]
          intro v H5 F5 r6 s6 dv
          obtain ⟨fp, ep⟩ := making_p r6
          have lz : acc.length < sizeLine := Nat.lt_of_lt_of_le (by omega) (Nat.le_of_lt (fit_line hz))
          have s05 : Same F2 F5 := (g3.ff.trans s5).trans s6
          exact ⟨acc, ep, lz, _, F5, acc ++ [v], da ++ [e], rs, making_up (r6.other (vs := vs) hw.symm), s2.trans s05, (dd.same s05).app (.cons dv .nil), by rw [List.length_append, List.length_singleton]; omega, er, by rw [List.append_assoc]; exact he⟩
      · rw [if_neg ha] at hr; cases hr
  · have e : i = ds.length := by omega
    subst e
    rw [List.drop_length] at hr
    cases hr
    rw [List.append_nil] at he
    subst he
    obtain ⟨fp, ep⟩ := making_p r2
    have le : B.Le (making B1 p acc) := ⟨fun a o e => ?_, fun a o u e1 e2 => ?_, sB.pin⟩
    · refine .inl ⟨y.stop H2 (s2.trans r2.fh), k F2 H2 acc (r2.unbase le) s2 fp bp ep dd fun j t e hj hs => ?_⟩
      obtain ⟨q, w1, w2, w3, w4⟩ := r2.ow j t e hj
      rw [hs] at w1
      cases w1
      have w3 : upd B1.b p (.lst acc) p = none := w3
      rw [upd_same] at w3
      cases w3
    · have ne : a ≠ p := fun z => by rw [z, bp] at e; cases e
      show upd B1.b p (.lst acc) a = some o
      rw [upd_ne ne]
      exact sB.b _ _ e
    · have ne : a ≠ p := fun z => by rw [z, bp] at e1; cases e1
      have e2 : (if a = p then none else B1.g a) = some u := e2
      rw [if_neg ne] at e2
      exact sB.g a o u e1 e2
/-! as a value, as an own list -/
theorem me_comp {elt tg iter : Expr} {ifs : List Expr} {scope : Scope} {pos : Pos} (own : List (Str × Nat)) {L : List Nat} {it : VEnv → Res (List D)} {g : Tgt} {c : Env → MO Bool} {f : Env → MO D} (hN : X.N.Nodup) (hi : FI K xm X tg iter it)
    (hg : ∀ (s : Shared) (H : Hp) (C : Addr) (cl : List (Str × Addr)) (fp : List Addr), FG K (X.blk s H scope (compEnvC scope cl C X.env) fp) tg g) (ht : ∀ (s : Shared) (H : Hp) (C : Addr) (cl : List (Str × Addr)) (fp : List Addr), MTs K (X.blk s H scope (compEnvC scope cl C X.env) fp) ifs c)
    (he : ∀ (s : Shared) (H : Hp) (C : Addr) (cl : List (Str × Addr)) (fp : List Addr), ME K none (X.blk s H scope (compEnvC scope cl C X.env) fp) elt f)
    (ok : BlkOk X.N X.env.scope scope own) (hc : X.calm = true := by rfl) (hs : ∀ x, foldedSetIterable iter X.env x = pure x := by intro _; rfl) :
    ME K xm X (.ListComp elt [⟨tg, iter, ifs, 0⟩] scope pos) (mComp (own.map (·.2)) L it g c f) :=
  PE.to (pe_lc hc hN hi ok hg ht he hs) fun σ H Q ⟨B, ρ, F, r, k⟩ => by
    refine ⟨_, _, r.lend_fh L, r.view L, ?_⟩
    unfold mComp at k
    cases e : it (view L ρ) with
    | exc x => rw [e] at k; exact exc_m r k
    | bad => rw [e] at k; exact k.elim
    | ok ds =>
      rw [e] at k
      dsimp only at k
      obtain ⟨hz, k2⟩ := Pm.ite k
      intro J F1 H1 g1 y p hp
      cases e2 : compM g c f (own.map (·.2)) ds (wipeS (shut L ρ) (own.map (·.2))) with
      | ex x ρ1 => rw [e2] at k2; exact k2.elim
      | bad => rw [e2] at k2; exact k2.elim
      | ok es ρ1 =>
        rw [e2] at k2
        dsimp only at k2
        have r1 := r.shutted g1
        refine compM_loop r1 y hp hz e2 fun F' H' acc r2 s2 fp bp ep dd nj => ?_
        refine k2 (.ref p) H' (upd F' p (.lst acc)) ⟨fun a o ea => ?_, r2.bh, fun a o u e1 e2 => ?_, r2.len, fun i d ei => ?_, fun i t d ei => ?_, r2.dj, r2.pn⟩ (((r.lend_ff L).trans g1.ff).trans (s2.trans (sm_upd fp))) (.lst upd_same (dd.same (sm_upd fp)))
        · by_cases z : a = p
          · subst z
            rw [upd_same] at ea
            cases ea
            exact ep
          · rw [upd_ne z] at ea
            exact r2.fh _ _ ea
        · by_cases z : a = p
          · subst z
            rw [bp] at e1; cases e1
          · rw [upd_ne z] at e2
            exact r2.zf a o u e1 e2
        · obtain ⟨v, h1, h2⟩ := r2.fz i d ei
          exact ⟨v, h1, h2.same (sm_upd fp)⟩
        · obtain ⟨q, w1, w2, w3, w4⟩ := r2.ow i t d ei
          have ne : q ≠ p := fun z => nj i t d ei (by rw [← z]; exact w1)
          exact ⟨q, w1, by rw [upd_ne ne]; exact w2, w3, w4.mono (sm_upd fp) fun _ h => h⟩
/-- a new thing, behind state -/
def PmW (K : PySem.W.Frag) (xm : XMo) (σ : St) (B : Bs) (r : MO D) (Q : VK) : Prop := match r with
  | .ok d ρ => ∀ p H' F', Rl K B σ H' ρ F' → F' p = none → B.b p = none → Ow K F' H' p d → (∀ (j : Nat) (t : Bool) (e : D), ρ[j]? = some (some (.own t e)) → σ[j]? ≠ some (some (.ref p))) → Q (.ref p) H'
  | .ex x ρ => match xm with
    | none => False
    | some m => ∀ C dd H' F', Rl K B σ H' ρ F' → ExIs K m.mg x F' C dd → m.W C dd σ H'
  | .bad => False
def tMW (K : PySem.W.Frag) (xm : XMo) (m : Env → MO D) : TE := fun σ H Q => ∃ B ρ F, Rl K B σ H ρ F ∧ PmW K xm σ B (m ρ) Q
abbrev MEW (K : PySem.W.Frag) (xm : XMo) (X : Cx) (e : Expr) (m : Env → MO D) : Prop := PE X e (tMW K xm m)
theorem mComp_w {elt tg iter : Expr} {L : List Nat} {it : VEnv → Res (List D)} {g : Tgt} {c : Env → MO Bool} {f : Env → MO D} {vs : List Nat} {σ : St} {H : Hp} {Q : VK} (k : tMW K xm (mComp vs L it g c f) σ H Q) : tLc (iF K xm it) (gF K g) (bM K none c) (tM K none f) vs σ H Q := by
  obtain ⟨B, ρ, F, r, k⟩ := k
  refine ⟨_, _, r.lend_fh L, r.view L, ?_⟩
  unfold mComp at k
  cases e : it (view L ρ) with
  | exc x =>
    rw [e] at k
    cases xm with
    | none => exact k.elim
    | some m => exact fun C dd F' H' g e => k C dd H' F' (r.shutted g) e
  | bad => rw [e] at k; exact k.elim
  | ok ds =>
    rw [e] at k
    dsimp only at k
    by_cases hz : fit ds.length = true
    · rw [if_pos hz] at k
      intro J F1 H1 g1 y p hp
      cases e2 : compM g c f vs ds (wipeS (shut L ρ) vs) with
      | ex x ρ1 => rw [e2] at k; exact k.elim
      | bad => rw [e2] at k; exact k.elim
      | ok es ρ1 =>
        rw [e2] at k
        exact compM_loop (r.shutted g1) y hp hz e2 fun F' H' acc r2 s2 fp bp ep dd nj => k p H' F' r2 fp bp ⟨acc, ep, dd⟩ nj
    · rw [if_neg hz] at k; exact k.elim
theorem mw_comp {elt tg iter : Expr} {ifs : List Expr} {scope : Scope} {pos : Pos} (own : List (Str × Nat)) {L : List Nat} {it : VEnv → Res (List D)} {g : Tgt} {c : Env → MO Bool} {f : Env → MO D} (hN : X.N.Nodup) (hi : FI K xm X tg iter it)
    (hg : ∀ (s : Shared) (H : Hp) (C : Addr) (cl : List (Str × Addr)) (fp : List Addr), FG K (X.blk s H scope (compEnvC scope cl C X.env) fp) tg g) (ht : ∀ (s : Shared) (H : Hp) (C : Addr) (cl : List (Str × Addr)) (fp : List Addr), MTs K (X.blk s H scope (compEnvC scope cl C X.env) fp) ifs c)
    (he : ∀ (s : Shared) (H : Hp) (C : Addr) (cl : List (Str × Addr)) (fp : List Addr), ME K none (X.blk s H scope (compEnvC scope cl C X.env) fp) elt f)
    (ok : BlkOk X.N X.env.scope scope own) (hc : X.calm = true := by rfl) (hs : ∀ x, foldedSetIterable iter X.env x = pure x := by intro _; rfl) :
    MEW K xm X (.ListComp elt [⟨tg, iter, ifs, 0⟩] scope pos) (mComp (own.map (·.2)) L it g c f) := PE.to (pe_lc hc hN hi ok hg ht he hs) fun _ _ _ k => mComp_w (elt := elt) (tg := tg) (iter := iter) k
def sOwnM (i : Nat) (m : Env → MO D) : Env → Out := fun ρ => mAt m ρ fun d ρ1 => .nx (ρ1.set i (some (.own false d)))
theorem ownM_at {i : Nat} {m : Env → MO D} (r : Rl K B σ H ρ F) (k : So K xm B Dn (sOwnM i m ρ)) : PmW K xm σ B (m ρ) fun v H' => Dn.nx (σ.set i (some v)) H' := by
  unfold sOwnM mAt at k
  cases e : m ρ with
  | ok d ρ1 =>
    rw [e] at k
    exact fun p H' F' r' fp bp ow nj => k _ _ _ (r'.setOwn ow fp bp fun j t e h1 h2 => absurd h2 (nj j t e h1))
  | ex x ρ1 =>
    rw [e] at k
    cases xm with
    | none => exact k
    | some m => exact fun C dd H' F' r' hx => k C dd σ H' F' r' hx
  | bad => rw [e] at k; exact k
theorem fs_ownM {x : Str} {e : Expr} {m : Env → MO D} {p1 pos : Pos} (i : Nat) (he : MEW K xm X e m) (hN : X.N.Nodup) (hi : X.N[i]? = some x := by rfl) (hx : Loc X.env.scope x := by first | exact Or.inl rfl | exact Or.inr rfl) (hf : X.fn x = true ∨ X.env.scope.names.lookup x = some .local := by first | exact .inl rfl | exact .inr rfl)
    (hs : swapsWithSole [.Name x p1] e pos.line X.env = pure false := by rfl) (hw : swappedStores [.Name x p1] e X.env = pure none := by rfl) (h1 : (assignEach [.Name x p1] X.env).map (·.2) = [assign (.Name x p1) X.env] := by rfl) : FS K xm X (.Assign [.Name x p1] e pos) (sOwnM i m) :=
  PS.to (ps_asg he (pg_name hN hi hx hf) hs hw h1) fun Dn σ H ⟨B, ρ, F, r, k⟩ => ⟨B, ρ, F, r, ownM_at r k⟩
theorem fs_ownLcM {y : Str} {py : Pos} {elt tg iter : Expr} {ifs : List Expr} {scope : Scope} {pos spos : Pos} {L : List Nat} {it : VEnv → Res (List D)} {g : Tgt} {c : Env → MO Bool} {f : Env → MO D} (i : Nat) (own : List (Str × Nat)) (hN : X.N.Nodup) (hi : FI K xm X tg iter it)
    (hg : ∀ (s : Shared) (H : Hp) (C : Addr) (cl : List (Str × Addr)) (fp : List Addr), FG K (X.blk s H scope (compEnvC scope cl C X.env) fp) tg g) (ht : ∀ (s : Shared) (H : Hp) (C : Addr) (cl : List (Str × Addr)) (fp : List Addr), MTs K (X.blk s H scope (compEnvC scope cl C X.env) fp) ifs c)
    (he : ∀ (s : Shared) (H : Hp) (C : Addr) (cl : List (Str × Addr)) (fp : List Addr), ME K none (X.blk s H scope (compEnvC scope cl C X.env) fp) elt f)
    (ok : BlkOk X.N X.env.scope scope own) (hsw : swapsWith (.ListComp elt [⟨tg, iter, ifs, 0⟩] scope pos) (some (.Name y py)) spos.line X.env = pure true) (hy : X.N[i]? = some y := by rfl) (hyl : X.env.scope.names.lookup y = some .local := by rfl) (hc : X.calm = true := by rfl) (hs : ∀ x, foldedSetIterable iter X.env x = pure x := by intro _; rfl) :
    FS K xm X (.Assign [.Name y py] (.ListComp elt [⟨tg, iter, ifs, 0⟩] scope pos) spos) (sOwnM i (mComp (own.map (·.2)) L it g c f)) :=
  PS.to (ps_setLc (i := i) hc hN hy hyl hsw hi ok hg ht he hs) fun Dn σ H ⟨B, ρ, F, r, k⟩ => mComp_w (elt := elt) (tg := tg) (iter := iter) (Q := fun v H' => Dn.nx (σ.set i (some v)) H') ⟨B, ρ, F, r, ownM_at r k⟩
end
end Du

namespace Du
open PySem PySem.Spec PyProof.Rows L2
section
variable {K : PySem.W.Frag} {xm : XMo} {X : Cx}
/-! ### len, abs, min, max, sum, all, any -/
def rLenA (K : PySem.W.Frag) : List V → Hp → VK → Prop := fun xs H Q => (fun xs H Q => ∃ x n, xs = [x] ∧ LenV K x H n ∧ Q (.int n) H) xs H Q ∨ (fun xs H Q => ∃ a kvs, xs = [V.ref a] ∧ H a = some (.dK kvs) ∧ Q (.int kvs.length) H) xs H Q
theorem cr_len (h : X.K = K := by rfl) : CallR X (.builtin "len") (rLenA K) := by
  subst h
  exact CallR.or call_len call_lenD
def dLen : List D → Res D
  | [.str z] => if fit z.length = true then .ok (.int z.length) else .bad
  | [.lst ds] => .ok (.int ds.length)
  | [.tup ds] => .ok (.int ds.length)
  | [.scr ns] => .ok (.int ns.length)
  | _ => .bad
theorem cd_len : CallD K (rLenA K) dLen := by
  intro xm σ F H xs ds Q s hd k
  unfold dLen at k
  split at k
  · obtain ⟨v, rfl, h⟩ := hd.one
    obtain ⟨f, k⟩ := Po.ite k
    rw [h.strE]
    exact .inl ⟨_, _, rfl, ⟨Nat.le_of_lt (fit_line f), rfl⟩, k.done s (.int _)⟩
  · obtain ⟨v, rfl, h⟩ := hd.one
    obtain ⟨p, ys, rfl, h1, h2⟩ := h.lstE
    exact .inl ⟨_, _, rfl, .inl ⟨ys, SqL.of (s _ _ h1), rfl⟩, by rw [h2.length]; exact k.done s (.int _)⟩
  · obtain ⟨v, rfl, h⟩ := hd.one
    obtain ⟨p, ys, rfl, h1, h2⟩ := h.tupE
    exact .inl ⟨_, _, rfl, .inr ⟨ys, (Below.of s).sqt h1, rfl⟩, by rw [h2.length]; exact k.done s (.int _)⟩
  · obtain ⟨v, rfl, h⟩ := hd.one
    cases h with
    | scr h1 => exact .inl ⟨_, _, rfl, .inl ⟨_, (Below.of s).sql h1, rfl⟩, by rw [List.length_map]; exact k.done s (.int _)⟩
  · exact k.elim
def dAbs : List D → Res D
  | [.int i] => .ok (.int (if i < 0 then -i else i))
  | _ => .bad
theorem cd_abs : CallD K (fun xs H Q => ∃ i, xs = [.int i] ∧ Q (.int (if i < 0 then -i else i)) H) dAbs := by
  intro xm σ F H xs ds Q s hd k
  unfold dAbs at k
  split at k
  · obtain ⟨v, rfl, h⟩ := hd.one
    rw [h.intE]
    exact ⟨_, rfl, k.done s (.int _)⟩
  · exact k.elim
def dMax2 : List D → Res D
  | [.int i, .int j] => .ok (.int (if j > i then j else i))
  | _ => .bad
theorem cd_max2 : CallD K (fun xs H Q => ∃ i j, xs = [.int i, .int j] ∧ Q (.int (if j > i then j else i)) H) dMax2 := by
  intro xm σ F H xs ds Q s hd k
  unfold dMax2 at k
  split at k
  · obtain ⟨v, w, rfl, h, h'⟩ := hd.two
    rw [h.intE, h'.intE]
    exact ⟨_, _, rfl, k.done s (.int _)⟩
  · exact k.elim
def dMin2 : List D → Res D
  | [.int i, .int j] => .ok (.int (if j < i then j else i))
  | _ => .bad
theorem cd_min2 : CallD K (fun xs H Q => ∃ i j, xs = [.int i, .int j] ∧ Q (.int (if j < i then j else i)) H) dMin2 := by
  intro xm σ F H xs ds Q s hd k
  unfold dMin2 at k
  split at k
  · obtain ⟨v, w, rfl, h, h'⟩ := hd.two
    rw [h.intE, h'.intE]
    exact ⟨_, _, rfl, k.done s (.int _)⟩
  · exact k.elim
/-- a list of whole numbers, of truths -/
def asInts : List D → Option (List Int)
  | [] => some []
  | .int i :: r => (asInts r).map (i :: ·)
  | _ :: _ => none
def asBls : List D → Option (List Bool)
  | [] => some []
  | .bl i :: r => (asBls r).map (i :: ·)
  | _ :: _ => none
def asStrs : List D → Option (List Str)
  | [] => some []
  | .str i :: r => (asStrs r).map (i :: ·)
  | _ :: _ => none
theorem asInts_of : ∀ {ds : List D} {ns : List Int}, asInts ds = some ns → ds = ns.map D.int
  | [], _, h => by cases h; rfl
  | .int i :: r, ns, h => by
    unfold asInts at h
    obtain ⟨m, h1, rfl⟩ := Option.map_eq_some_iff.mp h
    rw [asInts_of h1]
    rfl
  | .non :: _, _, h => by cases h
  | .bl _ :: _, _, h => by cases h
  | .str _ :: _, _, h => by cases h
  | .lst _ :: _, _, h => by cases h
  | .tup _ :: _, _, h => by cases h
  | .scr _ :: _, _, h => by cases h
  | .dct _ _ :: _, _, h => by cases h
  | .exc _ _ :: _, _, h => by cases h
theorem asBls_of : ∀ {ds : List D} {ns : List Bool}, asBls ds = some ns → ds = ns.map D.bl
  | [], _, h => by cases h; rfl
  | .bl i :: r, ns, h => by
    unfold asBls at h
    obtain ⟨m, h1, rfl⟩ := Option.map_eq_some_iff.mp h
    rw [asBls_of h1]
    rfl
  | .non :: _, _, h => by cases h
  | .int _ :: _, _, h => by cases h
  | .str _ :: _, _, h => by cases h
  | .lst _ :: _, _, h => by cases h
  | .tup _ :: _, _, h => by cases h
  | .scr _ :: _, _, h => by cases h
  | .dct _ _ :: _, _, h => by cases h
  | .exc _ _ :: _, _, h => by cases h
theorem asStrs_of : ∀ {ds : List D} {ns : List Str}, asStrs ds = some ns → ds = ns.map D.str
  | [], _, h => by cases h; rfl
  | .str i :: r, ns, h => by
    unfold asStrs at h
    obtain ⟨m, h1, rfl⟩ := Option.map_eq_some_iff.mp h
    rw [asStrs_of h1]
    rfl
  | .non :: _, _, h => by cases h
  | .int _ :: _, _, h => by cases h
  | .bl _ :: _, _, h => by cases h
  | .lst _ :: _, _, h => by cases h
  | .tup _ :: _, _, h => by cases h
  | .scr _ :: _, _, h => by cases h
  | .dct _ _ :: _, _, h => by cases h
  | .exc _ _ :: _, _, h => by cases h
@[simp] theorem asInts_map (ns : List Int) : asInts (ns.map D.int) = some ns := by
  induction ns with
  | nil => rfl
  | cons n r ih => rw [List.map_cons, asInts, ih]; rfl
@[simp] theorem asBls_map (ns : List Bool) : asBls (ns.map D.bl) = some ns := by
  induction ns with
  | nil => rfl
  | cons n r ih => rw [List.map_cons, asBls, ih]; rfl
@[simp] theorem asStrs_map (ns : List Str) : asStrs (ns.map D.str) = some ns := by
  induction ns with
  | nil => rfl
  | cons n r ih => rw [List.map_cons, asStrs, ih]; rfl
theorem DtAll.blsE {F : Hp} : ∀ {vs : List V} {ns : List Bool}, DtAll K F vs (ns.map D.bl) → vs = ns.map V.bl
  | _, [], .nil => rfl
  | _, n :: ns, .cons a b => by
    rw [a.blE, DtAll.blsE b]
    rfl
def dSum : List D → Res D
  | [.lst ds] => match asInts ds with
    | some ns => .ok (.int ns.sum)
    | none => .bad
  | _ => .bad
theorem cd_sum : CallD K (rSum K) dSum := by
  intro xm σ F H xs ds Q s hd k
  unfold dSum at k
  split at k
  · obtain ⟨v, rfl, h⟩ := hd.one
    obtain ⟨p, ys, rfl, h1, h2⟩ := h.lstE
    split at k
    · rename_i ns e
      rw [asInts_of e] at h2
      rw [h2.intsE] at h1
      exact ⟨p, ns, rfl, SqL.of (s _ _ h1), k.done s (.int _)⟩
    · exact k.elim
  · exact k.elim
def dMaxL : List D → Res D
  | [.lst ds] => match asInts ds with
    | some (n :: ns) => .ok (.int (ns.foldl max n))
    | _ => .bad
  | _ => .bad
def dMinL : List D → Res D
  | [.lst ds] => match asInts ds with
    | some (n :: ns) => .ok (.int (ns.foldl min n))
    | _ => .bad
  | _ => .bad
theorem foldl_max : ∀ (ns : List Int) (n : Int), (ns.foldl max n = n ∨ ns.foldl max n ∈ ns) ∧ n ≤ ns.foldl max n ∧ ∀ y ∈ ns, y ≤ ns.foldl max n
  | [], n => ⟨.inl rfl, Int.le_refl _, fun _ h => by cases h⟩
  | a :: r, n => by
    obtain ⟨h1, h2, h3⟩ := foldl_max r (max n a)
    rw [List.foldl_cons]
    refine ⟨?_, by omega, fun y hy => ?_⟩
    · rcases h1 with h1 | h1
      · rw [h1]
        by_cases q : n ≤ a
        · right
          rw [show max n a = a by omega]
          exact List.mem_cons_self
        · left
          omega
      · exact .inr (List.mem_cons_of_mem _ h1)
    · rcases List.mem_cons.mp hy with rfl | hy
      · omega
      · exact h3 y hy
theorem foldl_min : ∀ (ns : List Int) (n : Int), (ns.foldl min n = n ∨ ns.foldl min n ∈ ns) ∧ ns.foldl min n ≤ n ∧ ∀ y ∈ ns, ns.foldl min n ≤ y
  | [], n => ⟨.inl rfl, Int.le_refl _, fun _ h => by cases h⟩
  | a :: r, n => by
    obtain ⟨h1, h2, h3⟩ := foldl_min r (min n a)
    rw [List.foldl_cons]
    refine ⟨?_, by omega, fun y hy => ?_⟩
    · rcases h1 with h1 | h1
      · rw [h1]
        by_cases q : a ≤ n
        · right
          rw [show min n a = a by omega]
          exact List.mem_cons_self
        · left
          omega
      · exact .inr (List.mem_cons_of_mem _ h1)
    · rcases List.mem_cons.mp hy with rfl | hy
      · omega
      · exact h3 y hy
theorem cd_maxL : CallD K (rMax K) dMaxL := by
  intro xm σ F H xs ds Q s hd k
  unfold dMaxL at k
  split at k
  · obtain ⟨v, rfl, h⟩ := hd.one
    obtain ⟨p, ys, rfl, h1, h2⟩ := h.lstE
    split at k
    · rename_i n ns e
      rw [asInts_of e] at h2
      rw [h2.intsE] at h1
      obtain ⟨q1, q2, q3⟩ := foldl_max ns n
      refine ⟨p, n :: ns, rfl, SqL.of (s _ _ h1), by simp, fun m hm hy => ?_⟩
      have : m = ns.foldl max n := by
        have a1 := hy (ns.foldl max n) (by rcases q1 with q1 | q1; rw [q1]; exact List.mem_cons_self; exact List.mem_cons_of_mem _ q1)
        have a2 : m ≤ ns.foldl max n := by
          rcases List.mem_cons.mp hm with rfl | hm
          · exact q2
          · exact q3 m hm
        omega
      subst this
      exact k.done s (.int _)
    · exact k.elim
  · exact k.elim
theorem cd_minL : CallD K (rMin K) dMinL := by
  intro xm σ F H xs ds Q s hd k
  unfold dMinL at k
  split at k
  · obtain ⟨v, rfl, h⟩ := hd.one
    obtain ⟨p, ys, rfl, h1, h2⟩ := h.lstE
    split at k
    · rename_i n ns e
      rw [asInts_of e] at h2
      rw [h2.intsE] at h1
      obtain ⟨q1, q2, q3⟩ := foldl_min ns n
      refine ⟨p, n :: ns, rfl, SqL.of (s _ _ h1), by simp, fun m hm hy => ?_⟩
      have : m = ns.foldl min n := by
        have a1 := hy (ns.foldl min n) (by rcases q1 with q1 | q1; rw [q1]; exact List.mem_cons_self; exact List.mem_cons_of_mem _ q1)
        have a2 : ns.foldl min n ≤ m := by
          rcases List.mem_cons.mp hm with rfl | hm
          · exact q2
          · exact q3 m hm
        omega
      subst this
      exact k.done s (.int _)
    · exact k.elim
  · exact k.elim
def dAll : List D → Res D
  | [.lst ds] => match asBls ds with
    | some bs => .ok (.bl (bs.all id))
    | none => .bad
  | _ => .bad
def dAny : List D → Res D
  | [.lst ds] => match asBls ds with
    | some bs => .ok (.bl (bs.any id))
    | none => .bad
  | _ => .bad
theorem cd_all : CallD K (rAll K) dAll := by
  intro xm σ F H xs ds Q s hd k
  unfold dAll at k
  split at k
  · obtain ⟨v, rfl, h⟩ := hd.one
    obtain ⟨p, ys, rfl, h1, h2⟩ := h.lstE
    split at k
    · rename_i bs e
      rw [asBls_of e] at h2
      rw [h2.blsE] at h1
      exact ⟨p, bs, rfl, SqL.of (s _ _ h1), k.done s (.bl _)⟩
    · exact k.elim
  · exact k.elim
theorem cd_any : CallD K (rAny K) dAny := by
  intro xm σ F H xs ds Q s hd k
  unfold dAny at k
  split at k
  · obtain ⟨v, rfl, h⟩ := hd.one
    obtain ⟨p, ys, rfl, h1, h2⟩ := h.lstE
    split at k
    · rename_i bs e
      rw [asBls_of e] at h2
      rw [h2.blsE] at h1
      exact ⟨p, bs, rfl, SqL.of (s _ _ h1), k.done s (.bl _)⟩
    · exact k.elim
  · exact k.elim
/-! ### int, str, list, tuple, dict -/
def dInt : List D → Res D
  | [.int i] => .ok (.int i)
  | [.bl b] => .ok (.int (if b then 1 else 0))
  | _ => .bad
theorem cd_int : CallD K (fun xs H Q => (∃ i, xs = [.int i] ∧ Q (.int i) H) ∨ ∃ k, xs = [.bl k] ∧ Q (.int (if k then 1 else 0)) H) dInt := by
  intro xm σ F H xs ds Q s hd k
  unfold dInt at k
  split at k
  · obtain ⟨v, rfl, h⟩ := hd.one
    rw [h.intE]
    exact .inl ⟨_, rfl, k.done s (.int _)⟩
  · obtain ⟨v, rfl, h⟩ := hd.one
    rw [h.blE]
    exact .inr ⟨_, rfl, k.done s (.int _)⟩
  · exact k.elim
def dStr : List D → Res D
  | [.int i] => if i.natAbs.log2 < 1920 then .ok (.str (toString i)) else .bad
  | _ => .bad
theorem cd_str : CallD K (fun xs H Q => ∃ i, xs = [.int i] ∧ i.natAbs.log2 < 1920 ∧ Q (.str (toString i)) H) dStr := by
  intro xm σ F H xs ds Q s hd k
  unfold dStr at k
  split at k
  · obtain ⟨v, rfl, h⟩ := hd.one
    obtain ⟨f, k⟩ := Po.iteP k
    rw [h.intE]
    exact ⟨_, rfl, f, k.done s (.str _)⟩
  · exact k.elim
def dList : List D → Res D
  | [.lst ds] => .ok (.lst ds)
  | [.tup ds] => .ok (.lst ds)
  | [.scr ns] => .ok (.lst (ns.map D.int))
  | _ => .bad
theorem cd_list : CallD K (Dear.rListOf K) dList := by
  intro xm σ F H xs ds Q s hd k
  unfold dList at k
  split at k
  · obtain ⟨v, rfl, h⟩ := hd.one
    obtain ⟨p, ys, rfl, h1, h2⟩ := h.lstE
    exact ⟨p, ys, rfl, .inl (SqL.of (s _ _ h1)), fun l hl => k.new s hl (.lst upd_same (h2.same (sm_upd (s.free hl))))⟩
  · obtain ⟨v, rfl, h⟩ := hd.one
    obtain ⟨p, ys, rfl, h1, h2⟩ := h.tupE
    exact ⟨p, ys, rfl, .inr ((Below.of s).sqt h1), fun l hl => k.new s hl (.lst upd_same (h2.same (sm_upd (s.free hl))))⟩
  · obtain ⟨v, rfl, h⟩ := hd.one
    cases h with
    | scr h1 => exact ⟨_, _, rfl, .inl ((Below.of s).sql h1), fun l hl => k.new s hl (.lst upd_same (Dt.ints _))⟩
  · exact k.elim
def dTuple : List D → Res D
  | [.lst ds] => .ok (.tup ds)
  | [.tup ds] => .ok (.tup ds)
  | _ => .bad
theorem cd_tuple : CallD K (Dear.rTupOf K) dTuple := by
  intro xm σ F H xs ds Q s hd k
  unfold dTuple at k
  split at k
  · obtain ⟨v, rfl, h⟩ := hd.one
    obtain ⟨p, ys, rfl, h1, h2⟩ := h.lstE
    exact ⟨p, ys, rfl, .inl ⟨SqL.of (s _ _ h1), fun l hl => k.new s hl (.tup upd_same (h2.same (sm_upd (s.free hl))))⟩⟩
  · obtain ⟨v, rfl, h⟩ := hd.one
    obtain ⟨p, ys, rfl, h1, h2⟩ := id h.tupE
    exact ⟨p, ys, rfl, .inr ⟨(Below.of s).sqt h1, k.done s h⟩⟩
  · exact k.elim
/-! ### isinstance -/
def kind : D → String
  | .non => "NoneType" | .bl _ => "bool" | .int _ => "int" | .str _ => "str" | .lst _ => "list" | .tup _ => "tuple" | .dct _ _ => "dict" | .scr _ => "" | .exc _ _ => ""
def isKind (t : String) (d : D) : Res D := match d with
  | .scr _ => .bad
  | .exc _ _ => .bad
  | d => .ok (.bl (kind d == t || (kind d == "bool" && t == "int")))
theorem tyX_of {F H : Hp} {v : V} {d : D} (s : Same F H) (h : Dt K F v d) (h1 : ∀ ns, d ≠ .scr ns) (h2 : ∀ c f, d ≠ .exc c f) : TyX K H v (.type (kind d)) := by
  cases h with
  | non => exact .base .non
  | bl b => exact .base (.bl b)
  | int i => exact .base (.int i)
  | str z => exact .base (.str z)
  | lst h _ => exact .base (.lst (s _ _ h))
  | tup h _ => exact .base (.tup (s _ _ h))
  | scr _ => exact absurd rfl (h1 _)
  | dk h _ _ =>
    rcases h with h | ⟨o, h⟩
    · exact .base (.dK (s _ _ h))
    · exact .fDict (s _ _ h)
  | dt h _ _ => exact .base (.dT (s _ _ h))
def TyNames : List String := ["int", "bool", "str", "list", "tuple", "dict"]
theorem kitB_all : (TyNames.all fun t => ["NoneType", "bool", "int", "str", "list", "tuple", "dict"].all fun k => kitB k t == some (k == t || (k == "bool" && t == "int"))) = true := by decide +kernel
theorem kit_kind {t : String} (ht : t ∈ TyNames) {d : D} (h1 : ∀ ns, d ≠ .scr ns) (h2 : ∀ c f, d ≠ .exc c f) : PySem.W.kitOne K (.type (kind d)) (.type t) = some (kind d == t || (kind d == "bool" && t == "int")) := by
  refine kit_ty ?_
  have a := List.all_eq_true.mp kitB_all t ht
  have hm : kind d ∈ ["NoneType", "bool", "int", "str", "list", "tuple", "dict"] := by
    cases d with
    | scr ns => exact absurd rfl (h1 ns)
    | exc c f => exact absurd rfl (h2 c f)
    | _ => simp [kind]
  have b := List.all_eq_true.mp a _ hm
  exact eq_of_beq b
def eIsi (t : String) (f : VEnv → Res D) : VEnv → Res D := fun ρ => (f ρ).bind (isKind t)
theorem fe_isi {t : String} {ts : Str} {e : Expr} {f : VEnv → Res D} {p p2 pos : Pos} (ht : t ∈ TyNames) (he : FE K xm X e f) (h2 : PE X (.Name ts p2) (tC (.ty t))) (hm : X.mg "isinstance" = none) (hk : X.K = K := by rfl) (hg : Gl X "isinstance" := by rfl)
    (hs : starEach [e, .Name ts p2] X.env = (false, eval e X.env) :: starEach [.Name ts p2] X.env := by rfl) (hs2 : starEach [.Name ts p2] X.env = (false, eval (.Name ts p2) X.env) :: starEach [] X.env := by rfl) (hpl : (backTo pos (starEach [.Name ts p2] X.env)).any (·.1) = false := by rfl) :
    FE K xm X (.Call (.Name "isinstance" p) [e, .Name ts p2] [] pos) (eIsi t f) :=
  PE.to (pe_callB (Dear.call_isi_k K hk) hg hm (by decide +kernel) (pa_cons he (pa_cons h2 pa_nil hs2) hs) (by decide) (by decide) hs hpl) fun σ H Q ⟨F, ρ, sF, vw, k⟩ => ⟨F, ρ, sF, vw, Po.seq k fun d v F1 H1 g1 d1 k1 => by
    have key : (∀ ns, d ≠ .scr ns) → (∀ c f, d ≠ .exc c f) → Po (RD K) K xm σ F1 H1 (.ok (.bl (kind d == t || (kind d == "bool" && t == "int")))) Q → rIsi K [v, .ty t] H1 Q := fun h1 h2 k1 =>
      ⟨v, .ty t, _, _, _, rfl, .ty t, tyX_of g1.fh d1 h1 h2, kit_kind ht h1 h2, k1.done g1.fh (.bl _)⟩
    cases d with
    | scr ns => exact k1.elim
    | exc c f => exact k1.elim
    | non => exact key (fun _ => nofun) (fun _ _ => nofun) k1
    | bl _ => exact key (fun _ => nofun) (fun _ _ => nofun) k1
    | int _ => exact key (fun _ => nofun) (fun _ _ => nofun) k1
    | str _ => exact key (fun _ => nofun) (fun _ _ => nofun) k1
    | lst _ => exact key (fun _ => nofun) (fun _ _ => nofun) k1
    | tup _ => exact key (fun _ => nofun) (fun _ _ => nofun) k1
    | dct _ _ => exact key (fun _ => nofun) (fun _ _ => nofun) k1⟩
/-! ### len(set(e)), e a list of texts -/
def eLenSet (f : VEnv → Res D) : VEnv → Res D := fun ρ => (f ρ).bind fun d => match d with
  | .lst ds => match asStrs ds with
    | some zs => if Nat.ble zs.length 1000 = true then .ok (.int (Dear.dd zs).length) else .bad
    | none => .bad
  | _ => .bad
theorem fe_lenSet {a : Expr} {f : VEnv → Res D} {p p2 q pos : Pos} (hm : X.mg "len" = none) (hm2 : X.mg "set" = none) (ha : FE K xm X a f) (hc : X.calm = true := by rfl) (hk : X.K = K := by rfl) (hg : Gl X "len" := by rfl) (hg2 : Gl X "set" := by rfl)
    (na : starEach [a] X.env = (false, eval a X.env) :: starEach [] X.env := by rfl) : FE K xm X (.Call (.Name "len" p) [.Call (.Name "set" p2) [a] [] q] [] pos) (eLenSet f) :=
  PE.to (Dear.pe_lenSetS K hc hm hm2 ha hk hg hg2 na) fun σ H Q ⟨F, ρ, sF, vw, k⟩ => ⟨F, ρ, sF, vw, Po.seq k fun d v F1 H1 g1 d1 k1 => by
    split at k1
    · obtain ⟨p, ys, rfl, h1, h2⟩ := d1.lstE
      split at k1
      · rename_i zs e
        obtain ⟨f, k1⟩ := Po.ite k1
        rw [asStrs_of e] at h2
        rw [h2.strsE] at h1
        exact ⟨p, zs, rfl, SqL.of (g1.fh _ _ h1), Nat.le_of_ble_eq_true f, k1.done g1.fh (.int _)⟩
      · exact k1.elim
    · exact k1.elim⟩
/-! ### own lists: list(e), sorted(e); dict(pairs) -/
theorem fw_callT {x : Str} {id : String} {r : List V → Hp → VK → Prop} {g : List D → Res D} {e : Expr} {es : List Expr} {p pos : Pos} {fa : VEnv → Res (List D)} (hc : CallR X (.type id) r) (h : ∀ (xm : XMo) σ F H xs ds Q, Same F H → DtAll K F xs ds → PoW K xm σ F H (g ds) Q → r xs H Q) (hm : X.mg x = none) (ha : FA K xm X (e :: es) fa) (hg : Gl X x := by rfl) (hv : bootBuiltins x = some (.type id) := by decide +kernel)
    (hn : x ≠ "__name__" := by decide) (hdb : (x == ("__debug__" : Str)) = false := by decide) (he : starEach (e :: es) X.env = (false, eval e X.env) :: starEach es X.env := by rfl) (hpl : (backTo pos (starEach es X.env)).any (·.1) = false := by rfl) :
    FW' K xm X (.Call (.Name x p) (e :: es) [] pos) (eCall g fa) := PE.to (pe_callTy hc hg hm hv ha hn hdb he hpl) fun σ H Q ⟨F, ρ, sF, vw, k⟩ => ⟨F, ρ, sF, vw, PoW.seq k fun ds vs F1 H1 g1 d1 k1 => h xm σ F1 H1 vs ds Q g1.fh d1 k1⟩
theorem wd_list : ∀ (xm : XMo) σ F H xs ds Q, Same F H → DtAll K F xs ds → PoW K xm σ F H (dList ds) Q → Dear.rListOf K xs H Q := by
  intro xm σ F H xs ds Q s hd k
  unfold dList at k
  split at k
  · obtain ⟨v, rfl, h⟩ := hd.one
    obtain ⟨p, ys, rfl, h1, h2⟩ := h.lstE
    exact ⟨p, ys, rfl, .inl (SqL.of (s _ _ h1)), fun l hl => k.new s hl ⟨_, upd_same, h2⟩⟩
  · obtain ⟨v, rfl, h⟩ := hd.one
    obtain ⟨p, ys, rfl, h1, h2⟩ := h.tupE
    exact ⟨p, ys, rfl, .inr ((Below.of s).sqt h1), fun l hl => k.new s hl ⟨_, upd_same, h2⟩⟩
  · obtain ⟨v, rfl, h⟩ := hd.one
    cases h with
    | scr h1 => exact ⟨_, _, rfl, .inl ((Below.of s).sql h1), fun l hl => k.new s hl ⟨_, upd_same, Dt.ints _⟩⟩
  · exact k.elim
/-- pairs of a key and a thing -/
def asPairs : List D → Option (List (D × D))
  | [] => some []
  | .tup [k, v] :: r => if dKeyOk k = true then (asPairs r).map ((k, v) :: ·) else none
  | _ :: _ => none
noncomputable def mergeD (acc : List (D × D)) (ps : List (D × D)) : List (D × D) := ps.foldl (fun a p => dPut a p.1 p.2) acc
noncomputable def dDict : List D → Res D
  | [.lst ds] => match asPairs ds with
    | some ps => .ok (.dct false (mergeD [] ps))
    | none => .bad
  | _ => .bad
theorem merge_of {F : Hp} : ∀ {more : List (Key × V)} {ps : List (D × D)} {kvs : List (Key × V)} {ds : List (D × D)}, DtAll K F (more.map (·.2)) (ps.map (·.2)) → ps.map (·.1) = more.map (fun p => keyD p.1) → DtAll K F (kvs.map (·.2)) (ds.map (·.2)) → ds.map (·.1) = kvs.map (fun p => keyD p.1) →
    DtAll K F ((mergeK kvs more).map (·.2)) ((mergeD ds ps).map (·.2)) ∧ (mergeD ds ps).map (·.1) = (mergeK kvs more).map (fun p => keyD p.1)
  | [], [], _, _, _, _, h, e => ⟨h, e⟩
  | [], _ :: _, _, _, _, e, _, _ => by simp at e
  | _ :: _, [], _, _, _, e, _, _ => by simp at e
  | m :: more, p :: ps, kvs, ds, h, e, h0, e0 => by
    simp only [List.map_cons] at h e
    cases h with
    | cons a b =>
      injection e with e1 e2
      obtain ⟨z1, z2⟩ := put_of (k := m.1) a h0 e0
      have ih := merge_of (kvs := putK kvs m.1 m.2) (ds := dPut ds p.1 p.2) b e2 (by rw [e1]; exact z1) (by rw [e1]; exact z2)
      exact ih
theorem pairs_of' {F H : Hp} (s : Same F H) : ∀ {xs : List V} {ds ps : List (D)} {qs : List (D × D)}, DtAll K F xs ds → asPairs ds = some qs → ∃ (as : List Addr) (kvs : List (Key × V)), xs = as.map V.ref ∧ Paired (fun p kv => SqT K H p [kV kv.1, kv.2]) as kvs ∧ DtAll K F (kvs.map (·.2)) (qs.map (·.2)) ∧ qs.map (·.1) = kvs.map (fun p => keyD p.1) := by
  intro xs ds _ qs h
  induction xs generalizing ds qs with
  | nil =>
    cases h
    intro e
    cases e
    exact ⟨[], [], rfl, .nil, .nil, rfl⟩
  | cons v xs ih =>
    cases h with
    | @cons _ _ d ds a b =>
      intro e
      unfold asPairs at e
      split at e
      · rename_i h0
        cases h0
      · rename_i k w r h0
        injection h0 with h1 h2
        subst h1 h2
        by_cases ok : dKeyOk k = true
        · rw [if_pos ok] at e
          obtain ⟨m, hm, rfl⟩ := Option.map_eq_some_iff.mp e
          obtain ⟨as, kvs, rfl, q1, q2, q3⟩ := ih b hm
          obtain ⟨p, ys, rfl, t1, t2⟩ := a.tupE
          obtain ⟨x, y, rfl, t3, t4⟩ := t2.two
          obtain ⟨key, rfl, rfl⟩ := keyE t3 ok
          exact ⟨p :: as, (key, y) :: kvs, rfl, .cons ((Below.of s).sqt t1) q1, .cons t4 q2, by rw [List.map_cons, List.map_cons, q3]⟩
        · rw [if_neg ok] at e; cases e
      · cases e
theorem cd_dict : CallD K (Dear.rDictP K) dDict := by
  intro xm σ F H xs ds Q s hd k
  unfold dDict at k
  split at k
  · obtain ⟨v, rfl, h⟩ := hd.one
    obtain ⟨p, ys, rfl, h1, h2⟩ := h.lstE
    split at k
    · rename_i ps e
      obtain ⟨as, kvs, rfl, q1, q2, q3⟩ := pairs_of' (ps := []) s h2 e
      obtain ⟨z1, z2⟩ := merge_of (kvs := []) (ds := []) q2 q3 .nil rfl
      exact ⟨p, as, kvs, rfl, SqL.of (s _ _ h1), q1, fun l hl => k.new s hl (.dk (.inl upd_same) (z1.same (sm_upd (s.free hl))) z2)⟩
    · exact k.elim
  · exact k.elim
theorem wd_dict : ∀ (xm : XMo) σ F H xs ds Q, Same F H → DtAll K F xs ds → PoW K xm σ F H (dDict ds) Q → Dear.rDictP K xs H Q := by
  intro xm σ F H xs ds Q s hd k
  unfold dDict at k
  split at k
  · obtain ⟨v, rfl, h⟩ := hd.one
    obtain ⟨p, ys, rfl, h1, h2⟩ := h.lstE
    split at k
    · rename_i ps e
      obtain ⟨as, kvs, rfl, q1, q2, q3⟩ := pairs_of' (ps := []) s h2 e
      obtain ⟨z1, z2⟩ := merge_of (kvs := []) (ds := []) q2 q3 .nil rfl
      exact ⟨p, as, kvs, rfl, SqL.of (s _ _ h1), q1, fun l hl => k.new s hl ⟨_, upd_same, z1, z2⟩⟩
    · exact k.elim
  · exact k.elim
/-! ### methods -/
def MtD (K : PySem.W.Frag) (T : String) (r : V → List V → Hp → VK → Prop) (ty : D → Bool) (g : D → List D → Res D) : Prop :=
  (∀ F H x a, Same F H → Dt K F x a → ty a = true → tyV K T x H) ∧ ∀ (xm : XMo) σ F H x a xs ds Q, Same F H → Dt K F x a → ty a = true → DtAll K F xs ds → Po (RD K) K xm σ F H (g a ds) Q → r x xs H Q
def eM (ty : D → Bool) (g : D → List D → Res D) (fo : VEnv → Res D) (fa : VEnv → Res (List D)) : VEnv → Res D := fun ρ => (fo ρ).bind fun a => if ty a = true then (fa ρ).bind fun as => g a as else .bad
theorem fe_m {T id : String} {name : Str} {r : V → List V → Hp → VK → Prop} {ty : D → Bool} {g : D → List D → Res D} {o e : Expr} {es : List Expr} {apos cpos : Pos} {fo : VEnv → Res D} {fa : VEnv → Res (List D)} (pa : PlainAttrs T) (slot : PySem.Slot T name id) (hty : typeOf (.builtin id) = pure (.type "method_descriptor")) (hm : MtR X id r) (h : MtD K T r ty g) (ho : FE K xm X o fo) (ha : FA K xm X (e :: es) fa) (hk : X.K = K := by rfl)
    (hbase : attributeBase o name X.env (eval o X.env) = eval o X.env := by rfl)
    (hfew : ((backTo cpos (starEach (e :: es) X.env)).all (fun x => !x.1) && (backToKw cpos (keywordEach [] X.env)).all (fun x => x.1.isSome)
      && decide ((e :: es).length + ([] : List Keyword).length + (if ([] : List Keyword).isEmpty then 0 else 1) < 30)) = true := by rfl)
    (hline : (apos.endLine == cpos.line) = true := by rfl) (hs : starEach (e :: es) X.env = (false, eval e X.env) :: starEach es X.env := by rfl) (hplain : (backTo cpos (starEach es X.env)).any (·.1) = false := by rfl) :
    FE K xm X (.Call (.Attribute o name apos) (e :: es) [] cpos) (eM ty g fo fa) := by
  subst hk
  exact PE.to (pe_bm pa slot hty hm ho ha hbase hfew hline hs hplain) fun σ H Q ⟨F, ρ, sF, vw, k⟩ => ⟨F, ρ, sF, vw, Po.seq k fun a x F1 H1 g1 d1 k1 => by
    obtain ⟨t, k1⟩ := Po.ite k1
    exact ⟨h.1 F1 H1 x a g1.fh d1 t, F1, ρ, g1.fh, vw.same g1.ff, Po.seq k1 fun as xs F2 H2 g2 d2 k2 => h.2 xm σ F2 H2 x a xs as Q g2.fh (d1.same g2.ff) t d2 k2⟩⟩
theorem fe_m0 {T id : String} {name : Str} {r : V → List V → Hp → VK → Prop} {ty : D → Bool} {g : D → List D → Res D} {o : Expr} {apos cpos : Pos} {fo : VEnv → Res D} (pa : PlainAttrs T) (slot : PySem.Slot T name id) (hty : typeOf (.builtin id) = pure (.type "method_descriptor")) (hm : MtR X id r) (h : MtD K T r ty g) (ho : FE K xm X o fo) (hk : X.K = K := by rfl)
    (hbase : attributeBase o name X.env (eval o X.env) = eval o X.env := by rfl) (hline : (apos.endLine == cpos.line) = true := by rfl) :
    FE K xm X (.Call (.Attribute o name apos) [] [] cpos) (eM ty g fo aNil) := by
  subst hk
  exact PE.to (pe_bm0 pa slot hty hm ho hbase hline) fun σ H Q ⟨F, ρ, sF, vw, k⟩ => ⟨F, ρ, sF, vw, Po.seq k fun a x F1 H1 g1 d1 k1 => by
    obtain ⟨t, k1⟩ := Po.ite k1
    exact ⟨h.1 F1 H1 x a g1.fh d1 t, h.2 xm σ F1 H1 x a [] [] Q g1.fh d1 t .nil k1⟩⟩
def isStr : D → Bool
  | .str _ => true
  | _ => false
def isLst : D → Bool
  | .lst _ => true
  | _ => false
theorem ty_str {F H : Hp} {x : V} {a : D} (h : Dt K F x a) (t : isStr a = true) : tyV K "str" x H := by
  cases h <;> first | rfl | cases t
theorem ty_lst {F H : Hp} {x : V} {a : D} (s : Same F H) (h : Dt K F x a) (t : isLst a = true) : tyV K "list" x H := by
  cases h with
  | lst h _ => exact .inl ⟨rfl, _, SqL.of (s _ _ h)⟩
  | _ => cases t
def dStarts : D → List D → Res D
  | .str a, [.str b] => .ok (.bl (Txt.startswith a b))
  | _, _ => .bad
theorem md_starts : MtD K "str" (fun x xs H Q => ∃ a b, x = .str a ∧ xs = [.str b] ∧ Q (.bl (Txt.startswith a b)) H) isStr dStarts := ⟨fun F H x a s h t => ty_str h t, by
  intro xm σ F H x a xs ds Q s h t hd k
  unfold dStarts at k
  split at k
  · obtain ⟨v, rfl, q⟩ := hd.one
    rw [h.strE, q.strE]
    exact ⟨_, _, rfl, rfl, k.done s (.bl _)⟩
  · exact k.elim⟩
def dUpper : D → List D → Res D
  | .str a, [] => if Nat.ble a.length 5592405 = true then .ok (.str (Txt.upper a)) else .bad
  | _, _ => .bad
theorem md_upper : MtD K "str" (fun x xs H Q => ∃ a, x = .str a ∧ xs = [] ∧ a.length ≤ 5592405 ∧ Q (.str (Txt.upper a)) H) isStr dUpper := ⟨fun F H x a s h t => ty_str h t, by
  intro xm σ F H x a xs ds Q s h t hd k
  unfold dUpper at k
  split at k
  · obtain ⟨f, k⟩ := Po.ite k
    cases hd
    rw [h.strE]
    exact ⟨_, rfl, rfl, Nat.le_of_ble_eq_true f, k.done s (.str _)⟩
  · exact k.elim⟩
/-- the first place of a flat thing -/
def dIndex : D → List D → Res D
  | .lst ds, [d] => if (flatD d && ds.all flatD) = true then match ds.findIdx? (fun e => pyEq e d) with
    | some j => .ok (.int j)
    | none => .bad else .bad
  | _, _ => .bad
theorem md_index : MtD K "list" (rIndex K) isLst dIndex := ⟨fun F H x a s h t => ty_lst s h t, by
  intro xm σ F H x a xs ds Q s h t hd k
  unfold dIndex at k
  split at k
  · rename_i es d
    obtain ⟨f, k⟩ := Po.ite k
    obtain ⟨v, rfl, q⟩ := hd.one
    obtain ⟨p, ys, rfl, h1, h2⟩ := h.lstE
    rw [Bool.and_eq_true] at f
    split at k
    · rename_i j e
      obtain ⟨hj, e1, e2⟩ := List.findIdx?_eq_some_iff_getElem.mp e
      obtain ⟨z, w1, w2⟩ := h2.at (List.getElem?_eq_getElem hj)
      have fz : flatD es[j] = true := List.all_eq_true.mp f.2 _ (List.getElem_mem hj)
      refine ⟨p, ys, v, j, z, rfl, rfl, SqL.of (s _ _ h1), flat_of q f.1, flats_of h2 f.2, w1, by rw [eqV_of w2 q fz f.1]; exact e1, fun m z' hm hz => ?_, k.done s (.int _)⟩
      obtain ⟨d', w3, w4⟩ := h2.get hz
      obtain ⟨hm', e3⟩ := List.getElem?_eq_some_iff.mp w3
      rw [eqV_of w4 q (List.all_eq_true.mp f.2 _ (List.mem_of_getElem? w3)) f.1, ← e3]
      exact Bool.eq_false_iff.mpr (e2 m hm)
    · exact k.elim
  · exact k.elim⟩
end
end Du

namespace Du
open PySem PySem.Spec PyProof.Rows L2
section
variable {K : PySem.W.Frag} {xm : XMo} {X : Cx}
/-! ### sep.join(texts), text.split(sep) -/
def dJoin : D → D → Res D
  | .str a, .lst ds => match asStrs ds with
    | some zs => if Nat.ble ((zs.map (·.length)).sum + zs.length * a.length) 16777216 = true then .ok (.str (Txt.join a zs)) else .bad
    | none => .bad
  | _, _ => .bad
def eJoin (fo fa : VEnv → Res D) : VEnv → Res D := fun ρ => (fo ρ).bind fun a => if isStr a = true then (fa ρ).bind fun d => dJoin a d else .bad
theorem fe_join {o e : Expr} {apos pos : Pos} {fo fa : VEnv → Res D} (ho : FE K xm X o fo) (he : FE K xm X e fa) (hk : X.K = K := by rfl) (hs : starEach [e] X.env = [(false, eval e X.env)] := by rfl) (hbase : attributeBase o "join" X.env (eval o X.env) = eval o X.env := by rfl) (hline : (apos.endLine == pos.line) = true := by rfl) :
    FE K xm X (.Call (.Attribute o "join" apos) [e] [] pos) (eJoin fo fa) :=
  PE.to (Dear.pe_join_k K ho he hk hs hbase hline) fun σ H Q ⟨F, ρ, sF, vw, k⟩ => ⟨F, ρ, sF, vw, Po.seq k fun a x F1 H1 g1 d1 k1 => by
    obtain ⟨t, k1⟩ := Po.ite k1
    refine ⟨(by cases d1 <;> first | exact ⟨_, rfl⟩ | cases t), F1, ρ, g1.fh, vw.same g1.ff, Po.seq k1 fun d y F2 H2 g2 d2 k2 => ?_⟩
    unfold dJoin at k2
    split at k2
    · obtain ⟨p, ys, rfl, h1, h2⟩ := d2.lstE
      split at k2
      · rename_i zs e
        obtain ⟨f, k2⟩ := Po.ite k2
        rw [asStrs_of e] at h2
        rw [h2.strsE] at h1
        exact ⟨_, p, zs, d1.strE, rfl, .inl (SqL.of (g2.fh _ _ h1)), Nat.le_of_ble_eq_true f, k2.done g2.fh (.str _)⟩
      · exact k2.elim
    · exact k2.elim⟩
def dSplit : D → List D → Res D
  | .str a, [.str b] => if (!(b.length == 0) && Nat.ble (a.length + 2) 16777216) = true then .ok (.lst ((Txt.split a b).map D.str)) else .bad
  | _, _ => .bad
theorem md_split : MtD K "str" (fun x xs H Q => ∃ a b, x = .str a ∧ xs = [.str b] ∧ (b.length == 0) = false ∧ a.length + 2 ≤ sizeLine ∧ rNewStrs (Txt.split a b) H Q) isStr dSplit := ⟨fun F H x a s h t => ty_str h t, by
  intro xm σ F H x a xs ds Q s h t hd k
  unfold dSplit at k
  split at k
  · obtain ⟨f, k⟩ := Po.ite k
    obtain ⟨v, rfl, q⟩ := hd.one
    rw [Bool.and_eq_true] at f
    rw [h.strE, q.strE]
    exact ⟨_, _, rfl, rfl, by simpa using f.1, by rw [sizeLine_eq]; exact Nat.le_of_ble_eq_true f.2, fun p hp => k.new s hp (.lst upd_same (Dt.strs _))⟩
  · exact k.elim⟩
/-! ### d.get(k), d.get(k, e) -/
def isDct : D → Bool
  | .dct false _ => true
  | _ => false
noncomputable def eGet1 (fo fk : VEnv → Res D) : VEnv → Res D := fun ρ => (fo ρ).bind fun a => match a with
  | .dct false kvs => (fk ρ).bind fun n => if dKeyOk n = true then .ok ((dGet kvs n).getD .non) else .bad
  | _ => .bad
noncomputable def eGet2 (fo fk fd : VEnv → Res D) : VEnv → Res D := fun ρ => (fo ρ).bind fun a => match a with
  | .dct false kvs => (fk ρ).bind fun n => (fd ρ).bind fun e => if dKeyOk n = true then .ok ((dGet kvs n).getD e) else .bad
  | _ => .bad
theorem getD_of {F : Hp} {kvs : List (Key × V)} {ds : List (D × D)} {k : Key} {v : V} {d : D} (hv : Dt K F v d) (h : DtAll K F (kvs.map (·.2)) (ds.map (·.2))) (e : ds.map (·.1) = kvs.map (fun p => keyD p.1)) : Dt K F ((valV kvs k).getD v) ((dGet ds (keyD k)).getD d) := by
  obtain ⟨h1, h2⟩ := dGet_of (k := k) h e
  cases e2 : dGet ds (keyD k) with
  | some d' =>
    obtain ⟨w, q1, q2⟩ := h1 d' e2
    rw [q1]
    exact q2
  | none =>
    rw [e2] at h2
    have : valV kvs k = none := by
      cases q : valV kvs k with
      | none => rfl
      | some w => rw [q] at h2; cases h2
    rw [this]
    exact hv
theorem fe_get1 {o e : Expr} {apos cpos : Pos} {fo fk : VEnv → Res D} (hu : X.A.units + 1 < cLine) (ho : FE K xm X o fo) (he : FE K xm X e fk) (m : M1 X o "get" apos e cpos := by exact ⟨rfl, rfl, rfl, rfl⟩) : FE K xm X (.Call (.Attribute o "get" apos) [e] [] cpos) (eGet1 fo fk) :=
  PE.to (pe_dget1 hu ho he m) fun σ H Q ⟨F, ρ, sF, vw, k⟩ => ⟨F, ρ, sF, vw, Po.seq k fun a x F1 H1 g1 d1 k1 => by
    split at k1
    · cases d1 with
      | dk h1 h2 h3 =>
        refine ⟨_, rfl, .inl ⟨_, (Below.of g1.fh).rd h1⟩, F1, ρ, g1.fh, vw.same g1.ff, Po.seq k1 fun n y F2 H2 g2 d2 k2 => ?_⟩
        obtain ⟨ok, k2⟩ := Po.ite k2
        obtain ⟨key, rfl, rfl⟩ := keyE d2 ok
        exact ⟨_, .inl ⟨_, key, (Below.of (g2.ff.trans g2.fh)).rd h1, rfl, rfl⟩, k2.done g2.fh (getD_of .non (h2.same g2.ff) h3)⟩
    · exact k1.elim⟩
theorem fe_get2 {o e f : Expr} {apos cpos : Pos} {fo fk fd : VEnv → Res D} (hu : X.A.units + 1 < cLine) (ho : FE K xm X o fo) (he : FE K xm X e fk) (hf : FE K xm X f fd) (m : M2 X o "get" apos e f cpos := by exact ⟨rfl, rfl, rfl, rfl⟩) : FE K xm X (.Call (.Attribute o "get" apos) [e, f] [] cpos) (eGet2 fo fk fd) :=
  PE.to (pe_dget2 hu ho he hf m) fun σ H Q ⟨F, ρ, sF, vw, k⟩ => ⟨F, ρ, sF, vw, Po.seq k fun a x F1 H1 g1 d1 k1 => by
    split at k1
    · cases d1 with
      | dk h1 h2 h3 =>
        refine ⟨_, rfl, .inl ⟨_, (Below.of g1.fh).rd h1⟩, F1, ρ, g1.fh, vw.same g1.ff, Po.seq k1 fun n y F2 H2 g2 d2 k2 => ⟨F2, ρ, g2.fh, vw.same (g1.ff.trans g2.ff), Po.seq k2 fun e z F3 H3 g3 d3 k3 => ?_⟩⟩
        obtain ⟨ok, k3⟩ := Po.ite k3
        obtain ⟨key, rfl, rfl⟩ := keyE d2 ok
        exact ⟨_, .inl ⟨_, key, (Below.of ((g2.ff.trans g3.ff).trans g3.fh)).rd h1, rfl, rfl⟩, k3.done g3.fh (getD_of d3 (h2.same (g2.ff.trans g3.ff)) h3)⟩
    · exact k1.elim⟩
/-! ### sorted(e), e whole numbers, few -/
def insI (n : Int) : List Int → List Int
  | [] => [n]
  | m :: r => if n ≤ m then n :: m :: r else m :: insI n r
def sortI : List Int → List Int
  | [] => []
  | n :: r => insI n (sortI r)
/-! ### the law's own end -/
end
section
variable {P : Program} {w : World} {K : PySem.W.Frag} {mg : Str → Option Value} {base : Heap}
theorem law_of {k : Nat} {f : Addr} {fd : FuncData} {g : List D → Res D} (h : FnOk P w K mg base CX0 k f fd ["_law_script"] (sp0 K g)) (e : ∀ ns : List Int, ns.length ≤ 63 → g [.scr ns] = .ok (.bl true)) :
    FnOk P w K mg base CX0 k f fd ["_law_script"] (fun vs H Q _ => ∃ (a : Addr) (ns : List Int), vs = [.ref a] ∧ SqL K H a (ns.map V.int) ∧ ns.length ≤ 63 ∧ ∀ H', Q (.bl true) H') :=
  h.imp fun vs H Q E ⟨a, ns, ev, hS, hl, q⟩ => ⟨[.scr ns], H, .refl _, by rw [ev]; exact .cons (.scr hS) .nil, _, e ns hl, fun v G' H' _ d => by rw [d.blE]; exact q H'⟩
end
end Du

namespace Du
open PySem PySem.Spec PyProof.Rows L2
/-! ### what a comparison tells is a truth -/
theorem gb_eq : ∀ x y d, dEq x y = .ok d → ∃ b, d = .bl b := fun x y d h => by
  unfold dEq at h
  split at h
  · cases h; exact ⟨_, rfl⟩
  · cases h
theorem gb_ne : ∀ x y d, dNe x y = .ok d → ∃ b, d = .bl b := fun x y d h => by
  unfold dNe at h
  split at h
  · cases h; exact ⟨_, rfl⟩
  · cases h
theorem gb_cmp {p : Int → Int → Bool} : ∀ x y d, dCmp p x y = .ok d → ∃ b, d = .bl b := fun x y d h => by
  unfold dCmp at h
  split at h
  · cases h; exact ⟨_, rfl⟩
  · cases h
theorem gb_in {n : Bool} : ∀ x y d, dIn n x y = .ok d → ∃ b, d = .bl b := fun x y d h => by
  unfold dIn at h
  split at h
  · split at h
    · cases h; exact ⟨_, rfl⟩
    · cases h
  · split at h
    · cases h; exact ⟨_, rfl⟩
    · cases h
  · split at h
    · cases h; exact ⟨_, rfl⟩
    · cases h
  · split at h
    · cases h; exact ⟨_, rfl⟩
    · cases h
  · cases h
theorem gb_isN : ∀ x y d, dIsN x y = .ok d → ∃ b, d = .bl b := fun x y d h => by
  unfold dIsN at h
  split at h
  · cases h; exact ⟨_, rfl⟩
  · cases h
theorem gb_notN : ∀ x y d, dNotN x y = .ok d → ∃ b, d = .bl b := fun x y d h => by
  unfold dNotN at h
  split at h
  · cases h; exact ⟨_, rfl⟩
  · cases h
section
variable {K : PySem.W.Frag} {xm : XMo} {X : Cx}
/-! ### f(e, ..), e a new thing that f changes: what f tells of it -/
def eIOT (f : List D → Res (D × D)) (f0 : VEnv → Res D) (fa : VEnv → Res (List D)) : VEnv → Res D := fun ρ => (f0 ρ).bind fun o => (fa ρ).bind fun as => match f (o :: as) with
  | .ok r => .ok r.1
  | _ => .bad
theorem fe_iot {x : Str} {k k' : Nat} {ps : List Str} {f : List D → Res (D × D)} {e : Expr} {es : List Expr} {p pos : Pos} {f0 : VEnv → Res D} {fa : VEnv → Res (List D)} (O : Dear.OkF X.prog X.w X.K X.mg X.base CX0 k x ps (spIO K 0 f)) (hr : Room k' X.A) (h0 : FW' K xm X e f0) (ha : FA K xm X es fa) (hk : k ≤ k' := by decide) (hg : Gl X x := by rfl)
    (hdb : (x == ("__debug__" : Str)) = false := by decide) (he : starEach (e :: es) X.env = (false, eval e X.env) :: starEach es X.env := by rfl) (hpl : (backTo pos (starEach es X.env)).any (·.1) = false := by rfl) : FE K xm X (.Call (.Name x p) (e :: es) [] pos) (eIOT f f0 fa) :=
  PE.to (Dear.pe_c O hr (pa_cons h0 ha he) hk hg hdb he hpl) fun σ H Q ⟨F, ρ, sF, vw, k⟩ => by
    refine ⟨F, ρ, sF, vw, ?_⟩
    unfold eIOT at k
    cases e0 : f0 ρ with
    | exc x => rw [e0] at k; exact k
    | bad => rw [e0] at k; exact k.elim
    | ok o =>
      rw [e0] at k
      intro q F1 H1 g1 hq fq ow
      refine ⟨F1, ρ, g1.fh, vw.same g1.ff, ?_⟩
      dsimp only [Res.bind] at k
      have k1 := Po.mono k g1
      cases e1 : fa ρ with
      | exc x => rw [e1] at k1; exact k1
      | bad => rw [e1] at k; exact k.elim
      | ok as =>
        rw [e1] at k
        dsimp only at k
        intro vs F2 H2 g2 d2
        have fq2 : F2 q = none := by
          cases z : F2 q with
          | none => rfl
          | some u =>
            rcases g2.nw _ _ z with y | y
            · rw [fq] at y; cases y
            · obtain ⟨u', hu⟩ := ow.some
              rw [hu] at y; cases y
        have ow2 : Ow K F2 H2 q o := ow.mono g2.ff fun u hu => g2.hh _ _ hu
        cases er : f (o :: as) with
        | exc x => rw [er] at k; exact k.elim
        | bad => rw [er] at k; exact k.elim
        | ok r =>
          rw [er] at k
          dsimp only at k
          refine ⟨o :: as, F2, q, o, g2.fh, by rw [List.append_nil, List.length_cons, List.length_cons, d2.length], fun i v hi hv => ?_, by rfl, by rfl, fq2, ow2, r.1, r.2, er, fun v G' H' g dv _ => ?_⟩
          · rw [List.append_nil] at hv
            cases i with
            | zero => exact absurd rfl hi
            | succ i => exact d2.get (by simpa using hv)
          · have g12 := g1.trans g2
            refine k v G' H' ⟨fun a u h => g.hh a u (fun e => ?_) (g12.hh a u h), g12.ff.trans g.ff, g.fh, fun a u h => ?_⟩ dv
            · rw [e, hq] at h
              cases h
            · rcases g.nw a u h with z | z
              · exact g12.nw a u z
              · refine .inr ?_
                cases y : H a with
                | none => rfl
                | some y' => rw [g12.hh a y' y] at z; cases z
end
end Du

namespace Du
open PySem PySem.Spec PyProof.Rows L2
theorem u65 {k : Nat} {A : Around} (r : Room k A) : A.units + 64 + 1 < cLine := by have := r.un; omega
def dNeg : D → Res D
  | .int i => .ok (.int (-i))
  | _ => .bad
theorem und_neg {K : PySem.W.Frag} : UnD K (rU fun i => .int (-i)) dNeg := by
  intro xm σ F H x a Q s h k
  unfold dNeg at k
  split at k
  · rw [h.intE]
    exact ⟨_, rfl, k.done s (.int _)⟩
  · exact k.elim
theorem tn_int : "int" ∈ TyNames := by unfold TyNames; exact .head _
theorem tn_bool : "bool" ∈ TyNames := by unfold TyNames; exact .tail _ (.head _)
theorem tn_str : "str" ∈ TyNames := by unfold TyNames; exact .tail _ (.tail _ (.head _))
theorem tn_list : "list" ∈ TyNames := by unfold TyNames; exact .tail _ (.tail _ (.tail _ (.head _)))
theorem tn_tuple : "tuple" ∈ TyNames := by unfold TyNames; exact .tail _ (.tail _ (.tail _ (.tail _ (.head _))))
theorem tn_dict : "dict" ∈ TyNames := by unfold TyNames; exact .tail _ (.tail _ (.tail _ (.tail _ (.tail _ (.head _)))))
end Du
namespace Du
open PySem PySem.Spec PyProof.Rows L2
/-- a comprehension within a comprehension -/
theorem blkIn' {X : Cx} {N : List Str} {sc scope : Scope} {own : List (Str × Nat)} (hN : X.N = N) (hs : X.env.scope = sc) (h : blkC N sc scope own = true) : BlkOk X.N X.env.scope scope own := by
  rw [hN, hs]
  exact blkOk_by h
end Du

namespace Du
open PySem PySem.Spec PyProof.Rows L2
/-! ### a dict that is gone through is locked meanwhile -/
section
variable {K : PySem.W.Frag} {F G : Hp}
structure Abv (F G : Hp) : Prop where
  rd : ∀ a u, (∀ ob w, u ≠ .frz ob w) → Rd F a u → Rd G a u
  ls : ∀ a xs, F a = some (.lst xs) → G a = some (.lst xs)
  tp : ∀ a xs, F a = some (.tup xs) → G a = some (.tup xs)
  dt : ∀ a xs, F a = some (.dT xs) → G a = some (.dT xs)
theorem Abv.sql {a : Addr} {xs : List V} (s : Abv F G) (h : SqL K F a xs) : SqL K G a xs := h.imp (s.rd _ _ fun _ _ e => nomatch e) id
theorem Abv.sqt {a : Addr} {xs : List V} (s : Abv F G) (h : SqT K F a xs) : SqT K G a xs := h.imp (s.rd _ _ fun _ _ e => nomatch e) id
theorem Abv.rdk {a : Addr} {xs : List (Key × V)} (s : Abv F G) (h : Rd F a (.dK xs)) : Rd G a (.dK xs) := s.rd _ _ (fun _ _ e => nomatch e) h
mutual
theorem Dt.ab (s : Abv F G) : ∀ {v : V} {d : D}, Dt K F v d → Dt K G v d
  | _, _, .non => .non
  | _, _, .bl b => .bl b
  | _, _, .int i => .int i
  | _, _, .str z => .str z
  | _, _, .lst h a => .lst (s.ls _ _ h) (DtAll.ab s a)
  | _, _, .scr h => .scr (s.sql h)
  | _, _, .tup h a => .tup (s.tp _ _ h) (DtAll.ab s a)
  | _, _, .dk h a e => .dk (s.rdk h) (DtAll.ab s a) e
  | _, _, .dt h a e => .dt (s.dt _ _ h) (DtAll.ab s a) e
theorem DtAll.ab (s : Abv F G) : ∀ {vs : List V} {ds : List D}, DtAll K F vs ds → DtAll K G vs ds
  | _, _, .nil => .nil
  | _, _, .cons a b => .cons (Dt.ab s a) (DtAll.ab s b)
end
theorem abv_unlock {a0 : Addr} {kvs : List (Key × V)} {od : Obj} (h : F a0 = none ∨ F a0 = some (.frz od (.dK kvs))) : Abv F (upd F a0 (.dK kvs)) := by
  have st : ∀ (a : Addr) (u : HO), (∀ ob w, u ≠ .frz ob w) → (∀ w, u ≠ .dK w) → F a = some u → (upd F a0 (.dK kvs)) a = some u := fun a u n n2 e => by
    by_cases z : a = a0
    · subst z
      rcases h with h | h
      · rw [h] at e; cases e
      · rw [h] at e; cases e; exact absurd rfl (n _ _)
    · rw [upd_ne z]; exact e
  refine ⟨fun a u n r => ?_, fun a xs e => ?_, fun a xs => st a _ (fun _ _ e => nomatch e) (fun _ e => nomatch e), fun a xs => st a _ (fun _ _ e => nomatch e) (fun _ e => nomatch e)⟩
  · by_cases z : a = a0
    · subst z
      rcases h with h | h
      · rcases r with r | ⟨ob, r⟩
        · rw [h] at r; cases r
        · rw [h] at r; cases r
      · rcases r with r | ⟨ob, r⟩
        · rw [h] at r; cases r; exact absurd rfl (n _ _)
        · rw [h] at r; cases r; exact .inl upd_same
    · rcases r with r | ⟨ob, r⟩
      · exact .inl (by rw [upd_ne z]; exact r)
      · exact .inr ⟨ob, by rw [upd_ne z]; exact r⟩
  · by_cases z : a = a0
    · subst z
      rcases h with h | h
      · rw [h] at e; cases e
      · rw [h] at e; cases e
    · rw [upd_ne z]; exact e
theorem bel_lock {a0 : Addr} {kvs : List (Key × V)} {od : Obj} (h : F a0 = some (.dK kvs)) : Below F (upd F a0 (.frz od (.dK kvs))) := fun a o e => by
  by_cases z : a = a0
  · subst z
    rw [h] at e
    cases e
    exact .inr ⟨_, _, rfl, upd_same⟩
  · exact .inl (by rw [upd_ne z]; exact e)
theorem Ow.mv' {F' H H' : Hp} {p : Addr} {d : D} (h : Ow K F H p d) (m : ∀ vs ds, DtAll K F vs ds → DtAll K F' vs ds) (e : ∀ o, H p = Option.some o → H' p = Option.some o) : Ow K F' H' p d := by
  unfold Ow at h ⊢
  split at h
  · obtain ⟨xs, h1, h2⟩ := h
    exact ⟨xs, e _ h1, m _ _ h2⟩
  · obtain ⟨kvs, h1, h2, h3⟩ := h
    exact ⟨kvs, e _ h1, m _ _ h2, h3⟩
  · obtain ⟨kvs, h1, h2, h3⟩ := h
    exact ⟨kvs, e _ h1, m _ _ h2, h3⟩
  · exact h.elim
def Bs.lock (B : Bs) (a : Addr) (o : HO) : Bs := ⟨upd B.b a o, B.g, B.pin⟩
variable {B : Bs} {H : Hp} {σ : St} {ρ : Env} {Dn : Ends} {a : Addr} {kvs : List (Key × V)} {od : Obj}
theorem Rl.lock (r : Rl K B σ H ρ F) (hf : F a = some (.dK kvs)) (hb : B.b a = some (.dK kvs)) (hg : ∃ v, B.g a = some v) : Rl K (B.lock a (.frz od (.dK kvs))) σ (upd H a (.frz od (.dK kvs))) ρ (upd F a (.frz od (.dK kvs))) := by
  refine ⟨sm_upd2 r.fh, sm_upd2 r.bh, fun c o u e1 e2 => ?_, r.len, fun i d e => ?_, fun i t d e => ?_, r.dj, r.pn⟩
  · by_cases z : c = a
    · subst z; exact hg
    · refine r.zf c o u ?_ (by rw [upd_ne z] at e2; exact e2)
      have : (upd B.b a (.frz od (.dK kvs))) c = some o := e1
      rw [upd_ne z] at this
      exact this
  · obtain ⟨v, q1, q2⟩ := r.fz i d e
    exact ⟨v, q1, q2.mv (bel_lock hf)⟩
  · obtain ⟨p, q1, q2, q3, q4⟩ := r.ow i t d e
    have z : p ≠ a := fun z => by rw [z, hf] at q2; cases q2
    refine ⟨p, q1, by rw [upd_ne z]; exact q2, ?_, Ow.mv' q4 (fun _ _ q => q.mv (bel_lock hf)) fun o ho => by rw [upd_ne z]; exact ho⟩
    show (upd B.b a (.frz od (.dK kvs))) p = none
    rw [upd_ne z]
    exact q3
theorem Rl.lockAt (r : Rl K (B.lock a (.frz od (.dK kvs))) σ H ρ F) : H a = some (.frz od (.dK kvs)) := r.bh a _ upd_same
theorem Rl.abv (r : Rl K (B.lock a (.frz od (.dK kvs))) σ H ρ F) : Abv F (upd F a (.dK kvs)) := abv_unlock (by
  cases e : F a with
  | none => exact .inl rfl
  | some o =>
    have := r.fh _ _ e
    rw [r.lockAt] at this
    cases this
    exact .inr rfl)
theorem Rl.unlock (r : Rl K (B.lock a (.frz od (.dK kvs))) σ H ρ F) (hb : B.b a = some (.dK kvs)) (hg : ∃ v, B.g a = some v) : Rl K B σ (upd H a (.dK kvs)) ρ (upd F a (.dK kvs)) := by
  refine ⟨sm_upd2 r.fh, fun c o e => ?_, fun c o u e1 e2 => ?_, r.len, fun i d e => ?_, fun i t d e => ?_, r.dj, r.pn⟩
  · by_cases z : c = a
    · subst z; rw [hb] at e; cases e; exact upd_same
    · rw [upd_ne z]
      refine r.bh c o ?_
      show (upd B.b a (.frz od (.dK kvs))) c = some o
      rw [upd_ne z]
      exact e
  · by_cases z : c = a
    · subst z; exact hg
    · refine r.zf c o u ?_ (by rw [upd_ne z] at e2; exact e2)
      show (upd B.b a (.frz od (.dK kvs))) c = some o
      rw [upd_ne z]
      exact e1
  · obtain ⟨v, q1, q2⟩ := r.fz i d e
    exact ⟨v, q1, q2.ab r.abv⟩
  · obtain ⟨p, q1, q2, q3, q4⟩ := r.ow i t d e
    have z : p ≠ a := fun z => by
      have : (upd B.b a (.frz od (.dK kvs))) p = none := q3
      rw [z, upd_same] at this
      cases this
    refine ⟨p, q1, by rw [upd_ne z]; exact q2, ?_, Ow.mv' q4 (fun _ _ q => q.ab r.abv) fun o ho => by rw [upd_ne z]; exact ho⟩
    have : (upd B.b a (.frz od (.dK kvs))) p = none := q3
    rw [upd_ne z] at this
    exact this
/-- the ends of a statement that runs while the dict is locked (tLock) -/
def Lkd (Dn : Ends) (a : Addr) (od : Obj) (u : HO) : Ends := ⟨fun σ' H' => H' a = some (.frz od u) ∧ Dn.nx σ' (upd H' a u), fun v H' => H' a = some (.frz od u) ∧ Dn.rt v (upd H' a u), fun σ' H' => H' a = some (.frz od u) ∧ Dn.bk σ' (upd H' a u), fun σ' H' => H' a = some (.frz od u) ∧ Dn.ct σ' (upd H' a u)⟩
theorem So.lock {o : Out} (k : So K none B Dn o) (hb : B.b a = some (.dK kvs)) (hg : ∃ v, B.g a = some v) : So K none (B.lock a (.frz od (.dK kvs))) (Lkd Dn a od (.dK kvs)) o := by
  cases o with
  | nx ρ => exact fun σ H F r => ⟨r.lockAt, k _ _ _ (r.unlock hb hg)⟩
  | bk ρ => exact fun σ H F r => ⟨r.lockAt, k _ _ _ (r.unlock hb hg)⟩
  | ct ρ => exact fun σ H F r => ⟨r.lockAt, k _ _ _ (r.unlock hb hg)⟩
  | rt d ρ => exact fun v σ H F r dv => ⟨r.lockAt, k _ _ _ _ (r.unlock hb hg) (dv.ab r.abv)⟩
  | ro d ρ =>
    refine fun p σ H F r fp bp ow => ?_
    have z : p ≠ a := fun z => by
      have : (upd B.b a (.frz od (.dK kvs))) p = none := bp
      rw [z, upd_same] at this
      cases this
    refine ⟨r.lockAt, k p _ _ _ (r.unlock hb hg) (by rw [upd_ne z]; exact fp) ?_ (Ow.mv' ow (fun _ _ q => q.ab r.abv) fun o ho => by rw [upd_ne z]; exact ho)⟩
    have : (upd B.b a (.frz od (.dK kvs))) p = none := bp
    rw [upd_ne z] at this
    exact this
  | ex x ρ => exact k.elim
  | bad => exact k.elim
/-! ### for k in d, d.items(), d.values() -/
def iDict (i : Nat) (J : Addr → Obj → List (Key × V) → It) : TI := fun σ H R => tVar i σ H fun x H1 => ∃ d o kvs, x = .ref d ∧ H1 d = some (.frz o (.dK kvs)) ∧ R (J d o kvs) H1
/-- J walks the pairs of a dict as q -/
def Walks (K : PySem.W.Frag) (J : Addr → Obj → List (Key × V) → It) (q : List (D × D) → List D) : Prop := ∀ F a od kvs ds, F a = some (.frz od (.dK kvs)) → DtAll K F (kvs.map (·.2)) (ds.map (·.2)) → ds.map (·.1) = kvs.map (fun p => keyD p.1) → Yl K F (J a od kvs) (q ds)
def dDct (q : List (D × D) → List D) : D → Res (List D)
  | .dct false ds => .ok (q ds)
  | _ => .bad
def iDct (q : List (D × D) → List D) (i : Nat) : VEnv → Res (List D) := fun ρ => (eVar i ρ).bind (dDct q)
def qKeys (ds : List (D × D)) : List D := ds.map (·.1)
def qVals (ds : List (D × D)) : List D := ds.map (·.2)
def qItems (ds : List (D × D)) : List D := ds.map fun p => .tup [p.1, p.2]
theorem keyD_dt {F : Hp} : ∀ k : Key, Dt K F (kV k) (keyD k)
  | .inl i => .int i
  | .inr x => .str x
theorem walks_keys : Walks K Itk qKeys := fun F a od kvs ds hf hv hk => by
  have l : (qKeys ds).length = kvs.length := by unfold qKeys; rw [hk, List.length_map]
  refine ⟨fun i H hi s => ⟨s _ _ hf, by omega⟩, fun i d F1 H x H' e s s1 y => ?_, fun H s => ⟨s _ _ hf, by omega⟩⟩
  obtain ⟨rfl, k, v, e1, rfl⟩ := y
  unfold qKeys at e
  rw [hk, List.getElem?_map, e1] at e
  cases e
  exact ⟨F1, .refl s1, keyD_dt k⟩
theorem walks_vals : Walks K Itd qVals := fun F a od kvs ds hf hv hk => by
  have l : (qVals ds).length = kvs.length := by unfold qVals; rw [← hv.length, List.length_map]
  refine ⟨fun i H hi s => ⟨s _ _ hf, by omega⟩, fun i d F1 H x H' e s s1 y => ?_, fun H s => ⟨s _ _ hf, by omega⟩⟩
  obtain ⟨rfl, k, e1⟩ := y
  obtain ⟨v, q1, q2⟩ := hv.at e
  rw [List.getElem?_map, e1] at q1
  cases q1
  exact ⟨F1, .refl s1, q2.same s⟩
theorem walks_items : Walks K Iti qItems := fun F a od kvs ds hf hv hk => by
  have l : (qItems ds).length = kvs.length := by
    have := hv.length
    rw [List.length_map, List.length_map] at this
    unfold qItems; rw [List.length_map, this]
  refine ⟨fun i H hi s => ⟨s _ _ hf, by omega⟩, fun i d F1 H x H' e s s1 y => ?_, fun H s => ⟨s _ _ hf, by omega⟩⟩
  obtain ⟨T, k, v, e1, rfl, hT, rfl⟩ := y
  unfold qItems at e
  rw [List.getElem?_map] at e
  obtain ⟨p, e2, rfl⟩ := Option.map_eq_some_iff.mp e
  have e3 : (ds.map (·.1))[i]? = some p.1 := by rw [List.getElem?_map, e2]; rfl
  rw [hk, List.getElem?_map, e1] at e3
  have e3 : keyD k = p.1 := by simpa using e3
  obtain ⟨w, q1, q2⟩ := hv.at (i := i) (d := p.2) (by rw [List.getElem?_map, e2]; rfl)
  rw [List.getElem?_map, e1] at q1
  cases q1
  refine ⟨_, .new s1 hT, .tup upd_same (.cons (e3 ▸ keyD_dt k) (.cons (q2.same (s.trans (sm_upd (s1.free hT)))) .nil))⟩
theorem Dt.dctE {F : Hp} {v : V} {ds : List (D × D)} (h : Dt K F v (.dct false ds)) : ∃ a kvs, v = .ref a ∧ Rd F a (.dK kvs) ∧ DtAll K F (kvs.map (·.2)) (ds.map (·.2)) ∧ ds.map (·.1) = kvs.map (fun p => keyD p.1) := by
  cases h with
  | dk h a e => exact ⟨_, _, rfl, h, a, e⟩
variable {X : Cx} {xm : XMo}
theorem PS.or {st : Stmt} {t t' : TS} (h : PS X st t) (h' : PS X st t') : PS X st fun D σ H => t D σ H ∨ t' D σ H := ⟨fun pins s σ H D I q => q.elim (h.run pins s σ H D I) (h'.run pins s σ H D I)⟩
theorem PE.or' {st : Expr} {t t' : TE} (h : PE X st t) (h' : PE X st t') : PE X st fun σ H Q => t σ H Q ∨ t' σ H Q := ⟨fun pins s σ H Q I q => q.elim (h.run pins s σ H Q I) (h'.run pins s σ H Q I)⟩
theorem fs_forK {tg iter : Expr} {body : List Stmt} {gt : Tgt} {g : Env → Out} {pos : Pos} {J : Addr → Obj → List (Key × V) → It} {q : List (D × D) → List D} (i : Nat) (l : List Nat) (hp : PassesOwn (model X.prog X.w) X.A X.env X.xe) (hi : PI X tg iter (iDict i J)) (hw : Walks K J q) (hg : FG K X tg gt) (hb : FSs K none X body g) (hc : X.calm = true := by rfl)
    (hs : ∀ x, foldedSetIterable iter X.env x = pure x := by intro _; rfl) : FS K none X (.For tg iter body [] pos) (sFor [i] (iDct q i) gt g l) :=
  PS.to (PS.or (ps_lock (ps_for hp hc hi hg hb hs)) (ps_for hp hc hi hg hb hs)) fun Dn σ H ⟨B, ρ, F, r, k⟩ => by
    have r0 := r.shutted (Gr.refl (r.lend_fh [i]))
    have vw := r.view [i]
    generalize lend σ ρ [i] F H = Fl at r0 vw
    unfold sFor eAt iDct eVar at k
    cases e2 : (view [i] ρ)[i]? with
    | none => rw [e2] at k; exact k.elim
    | some o =>
      cases o with
      | none => rw [e2] at k; exact k.elim
      | some d =>
        rw [e2] at k
        obtain ⟨v, h1, h2⟩ := vw.get i _ e2
        cases d with
        | dct t ds =>
          cases t with
          | true => exact k.elim
          | false =>
            have k : So K none B Dn (forL gt g l (q ds) (shut [i] ρ)) := k
            obtain ⟨a, kvs, rfl, h3, h4, h5⟩ := h2.dctE
            obtain ⟨B1, sB, sF1, sF2, r1⟩ := r0.base
            have k1 := So.weak k sB
            rcases h3 with h3 | ⟨ob, h3⟩
            · have hb1 := sF1 _ _ h3
              have hg1 : ∃ v, B1.g a = some v := ⟨_, sF2 _ _ h3⟩
              refine .inl ⟨a, .dK kvs, r1.fh _ _ h3, trivial, fun od => ?_⟩
              refine ⟨.ref a, h1, a, od, kvs, rfl, upd_same, ?_⟩
              exact for_loop rfl (r1.lock h3 hb1 hg1) (hw _ _ _ _ _ upd_same (h4.mv (bel_lock h3)) h5) (k1.lock hb1 hg1)
            · exact .inr ⟨.ref a, h1, a, ob, kvs, rfl, r1.fh _ _ h3, for_loop rfl r1 (hw _ _ _ _ _ h3 h4 h5) k1⟩
        | _ => exact k.elim
theorem fe_compK {elt tg iter : Expr} {ifs : List Expr} {scope : Scope} {pos : Pos} {J : Addr → Obj → List (Key × V) → It} {q : List (D × D) → List D} (i : Nat) (own : List (Str × Nat)) {g : Tgt} {c : VEnv → Res Bool} {f : VEnv → Res D} (hN : X.N.Nodup) (hi : PI X tg iter (iDict i J)) (hw : Walks K J q)
    (hg : ∀ (s : Shared) (H : Hp) (C : Addr) (cl : List (Str × Addr)) (fp : List Addr), FG K (X.blk s H scope (compEnvC scope cl C X.env) fp) tg g) (ht : ∀ (s : Shared) (H : Hp) (C : Addr) (cl : List (Str × Addr)) (fp : List Addr), FTs K (X.blk s H scope (compEnvC scope cl C X.env) fp) ifs c)
    (he : ∀ (s : Shared) (H : Hp) (C : Addr) (cl : List (Str × Addr)) (fp : List Addr), FE K none (X.blk s H scope (compEnvC scope cl C X.env) fp) elt f)
    (ok : BlkOk X.N X.env.scope scope own) (hc : X.calm = true := by rfl) (hs : ∀ x, foldedSetIterable iter X.env x = pure x := by intro _; rfl) :
    FE K xm X (.ListComp elt [⟨tg, iter, ifs, 0⟩] scope pos) (eComp (own.map (·.2)) (iDct q i) g c f) :=
  PE.to (PE.or' (pe_lock (pe_lc hc hN hi ok hg ht he hs)) (pe_lc hc hN hi ok hg ht he hs)) fun σ H Q ⟨F, ρ, sF, vw, k⟩ => by
    unfold eComp iDct eVar at k
    cases e2 : ρ[i]? with
    | none => rw [e2] at k; exact k.elim
    | some o =>
      cases o with
      | none => rw [e2] at k; exact k.elim
      | some d =>
        rw [e2] at k
        cases d with
        | dct tt ds1 =>
          cases tt with
          | true => exact k.elim
          | false =>
            have k : Po (RD K) K xm σ F H (if fit (q ds1).length = true then (okOf (compL g c f (wipeD ρ (own.map (·.2))) (own.map (·.2)) (q ds1))).bind fun es => .ok (.lst es) else .bad) Q := k
            obtain ⟨hz, k⟩ := Po.ite k
            cases e : compL g c f (wipeD ρ (own.map (·.2))) (own.map (·.2)) (q ds1) with
            | exc x => rw [e] at k; exact k.elim
            | bad => rw [e] at k; exact k.elim
            | ok es =>
              rw [e] at k
              dsimp only [okOf] at k
              obtain ⟨v, h1, h2⟩ := vw.get i _ e2
              obtain ⟨a, kvs, rfl, h3, h4, h5⟩ := h2.dctE
              rcases h3 with h3 | ⟨ob, h3⟩
              · refine .inl ⟨a, .dK kvs, sF _ _ h3, trivial, fun od => ?_⟩
                refine ⟨.ref a, h1, a, od, kvs, rfl, upd_same, fun p hp => ?_⟩
                have vw' : Vw K (upd F a (.frz od (.dK kvs))) σ ρ := ⟨vw.len, fun i d e => by
                  obtain ⟨v, q1, q2⟩ := vw.get i d e
                  exact ⟨v, q1, q2.mv (bel_lock h3)⟩⟩
                refine comp_loop (Q := fun v H' => H' a = some (.frz od (.dK kvs)) ∧ Q v (upd H' a (.dK kvs))) (sm_upd2 sF) vw' (hw _ _ _ _ _ upd_same (h4.mv (bel_lock h3)) h5) hp hz e fun F2 H2 acc gr fp ep dd => ?_
                have ha : H2 a = some (.frz od (.dK kvs)) := gr.hh _ _ upd_same
                have hfa : F2 a = some (.frz od (.dK kvs)) := gr.ff _ _ upd_same
                have pa : p ≠ a := fun z => by rw [z, hfa] at fp; cases fp
                refine ⟨ha, ?_⟩
                have ab := abv_unlock (.inr hfa)
                have g2 : Gr F H (upd F2 a (.dK kvs)) (upd H2 a (.dK kvs)) := ⟨fun b o hb => by
                    by_cases z : b = a
                    · subst z; rw [sF _ _ h3] at hb; cases hb; exact upd_same
                    · rw [upd_ne z]; exact gr.hh _ _ (by rw [upd_ne z]; exact hb), fun b o hb => by
                    by_cases z : b = a
                    · subst z; rw [h3] at hb; cases hb; exact upd_same
                    · rw [upd_ne z]; exact gr.ff _ _ (by rw [upd_ne z]; exact hb), sm_upd2 gr.fh, fun b o hb => by
                    by_cases z : b = a
                    · subst z; rw [upd_same] at hb; cases hb; exact .inl h3
                    · rw [upd_ne z] at hb
                      have := gr.nw _ _ hb
                      rw [upd_ne z, upd_ne z] at this
                      exact this⟩
                have hpn : H p = none := by rw [upd_ne pa] at hp; exact hp
                have fp2 : (upd F2 a (.dK kvs)) p = none := by rw [upd_ne pa]; exact fp
                have ep2 : (upd H2 a (.dK kvs)) p = some (.lst acc) := by rw [upd_ne pa]; exact ep
                exact k _ _ _ (g2.freeze hpn fp2 ep2) (.lst upd_same ((dd.ab ab).same (sm_upd fp2)))
              · refine .inr ⟨.ref a, h1, a, ob, kvs, rfl, sF _ _ h3, fun p hp => ?_⟩
                exact comp_loop sF vw (hw _ _ _ _ _ h3 h4 h5) hp hz e fun F' H' acc g fp ep dd => k _ (upd F' p (.lst acc)) H' (g.freeze hp fp ep) (.lst upd_same (dd.same (sm_upd fp)))
        | _ => exact k.elim
end
end Du

namespace Du
open PySem PySem.Spec PyProof.Rows L2
section
variable {K : PySem.W.Frag} {xm : XMo} {X : Cx} {B : Bs} {F H : Hp} {σ : St} {ρ : Env} {Dn : Ends}
/-! ### iterators, slices, .. with state -/
def iM (K : PySem.W.Frag) (xm : XMo) (m : Env → MO (List D)) : TI := fun σ H R => ∃ B ρ F, Rl K B σ H ρ F ∧ Pm (fun F' J ds => Yl K F' J ds) K xm σ B F (m ρ) R
abbrev MI (K : PySem.W.Frag) (xm : XMo) (X : Cx) (tg e : Expr) (m : Env → MO (List D)) : Prop := PI X tg e (iM K xm m)
def mRange1 (m : Env → MO D) : Env → MO (List D) := fun ρ => (m ρ).bind fun d ρ1 => match d with
  | .int j => if inR j = true then .ok (rangeD 0 j.toNat) ρ1 else .bad
  | _ => .bad
theorem mi_range1 {tg a : Expr} {p pos : Pos} {m : Env → MO D} (hm : X.mg "range" = none) (h : ME K xm X a m) (hg : Gl X "range" := by rfl) (hs : starEach [a] X.env = [(false, eval a X.env)] := by rfl) :
    MI K xm X tg (.Call (.Name "range" p) [a] [] pos) (mRange1 m) := PI.to (pi_range1 hg hm (ma_cons h ma_nil hs) hs) fun σ H R ⟨B, ρ, F, r, k⟩ => by
  unfold mRange1 at k
  refine ⟨B, ρ, F, r, ?_⟩
  unfold mCons mNil
  cases e : m ρ with
  | ex x ρ1 => rw [e] at k; exact k
  | bad => rw [e] at k; exact k.elim
  | ok d ρ1 =>
    rw [e] at k
    intro vs H' F' r' s' dd
    obtain ⟨v, rfl, q⟩ := DtAll.one dd
    cases d with
    | int j =>
      have k : Pm (fun F' J ds => Yl K F' J ds) K xm σ B F (if inR j = true then MO.ok (rangeD 0 j.toNat) ρ1 else .bad) R := k
      obtain ⟨f, k⟩ := Pm.ite k
      have f := of_decide_eq_true f
      exact ⟨j, by rw [q.intE], f.1, f.2, k _ H' F' r' s' (yl_rng 0 _)⟩
    | _ => exact k.elim
/-- over a list that is made with state -/
def mAny (m : Env → MO D) : Env → MO (List D) := fun ρ => (m ρ).bind fun d ρ1 => match d with
  | .lst ds => .ok ds ρ1
  | _ => .bad
theorem mi_any {tg e : Expr} {m : Env → MO D} (h : ME K xm X e m) (hk : X.K = K := by rfl) : MI K xm X tg e (mAny m) := by
  subst hk
  refine PI.to (pi_list h) fun σ H R ⟨B, ρ, F, r, k⟩ => ⟨B, ρ, F, r, Pm.seq k fun d ρ1 v H1 F1 r1 s1 d1 k1 => ?_⟩
  cases d with
  | lst ds =>
    obtain ⟨p, xs, rfl, h1, h2⟩ := d1.lstE
    exact ⟨p, rfl, ⟨xs, SqL.of (r1.fh _ _ h1)⟩, k1 _ H1 F1 r1 (.refl _) (yl_list (fun H s => SqL.of (s _ _ h1)) h2)⟩
  | _ => exact k1.elim
def sForM (m : Env → MO (List D)) (tg : Tgt) (g : Env → Out) (l : List Nat) : Env → Out := fun ρ => mAt m ρ fun ds ρ1 => forL tg g l ds ρ1
theorem fs_forM {tg iter : Expr} {body : List Stmt} {m : Env → MO (List D)} {gt : Tgt} {g : Env → Out} {pos : Pos} (l : List Nat) (hp : PassesOwn (model X.prog X.w) X.A X.env X.xe) (hi : MI K xm X tg iter m) (hg : FG K X tg gt) (hb : FSs K xm X body g) (hc : X.calm = true := by rfl)
    (hs : ∀ x, foldedSetIterable iter X.env x = pure x := by intro _; rfl) : FS K xm X (.For tg iter body [] pos) (sForM m gt g l) :=
  PS.to (ps_for hp hc hi hg hb hs) fun Dn σ H ⟨B, ρ, F, r, k⟩ => ⟨B, ρ, F, r, pm_at (R := fun F' J ds => Yl K F' J ds) r k fun ds ρ1 J H' F' r' y _ k' => for_loop rfl r' y k'⟩
/-! comprehensions over such ones -/
def mCompI (vs : List Nat) (m : Env → MO (List D)) (tg : Tgt) (c : Env → MO Bool) (f : Env → MO D) : Env → MO D := fun ρ => (m ρ).bind fun ds ρ1 => if fit ds.length = true then match compM tg c f vs ds (wipeS ρ1 vs) with
    | .ok es ρ2 => .ok (.lst es) ρ2
    | _ => .bad else .bad
theorem me_compI {elt tg iter : Expr} {ifs : List Expr} {scope : Scope} {pos : Pos} (own : List (Str × Nat)) {m : Env → MO (List D)} {g : Tgt} {c : Env → MO Bool} {f : Env → MO D} (hN : X.N.Nodup) (hi : MI K xm X tg iter m)
    (hg : ∀ (s : Shared) (H : Hp) (C : Addr) (cl : List (Str × Addr)) (fp : List Addr), FG K (X.blk s H scope (compEnvC scope cl C X.env) fp) tg g) (ht : ∀ (s : Shared) (H : Hp) (C : Addr) (cl : List (Str × Addr)) (fp : List Addr), MTs K (X.blk s H scope (compEnvC scope cl C X.env) fp) ifs c)
    (he : ∀ (s : Shared) (H : Hp) (C : Addr) (cl : List (Str × Addr)) (fp : List Addr), ME K none (X.blk s H scope (compEnvC scope cl C X.env) fp) elt f)
    (ok : BlkOk X.N X.env.scope scope own) (hc : X.calm = true := by rfl) (hs : ∀ x, foldedSetIterable iter X.env x = pure x := by intro _; rfl) :
    ME K xm X (.ListComp elt [⟨tg, iter, ifs, 0⟩] scope pos) (mCompI (own.map (·.2)) m g c f) :=
  PE.to (pe_lc hc hN hi ok hg ht he hs) fun σ H Q ⟨B, ρ, F, r, k⟩ => by
    refine ⟨B, ρ, F, r, Pm.seq k fun ds ρ1 J H1 F1 r1 s1 y k1 p hp => ?_⟩
    obtain ⟨hz, k2⟩ := Pm.ite k1
    cases e2 : compM g c f (own.map (·.2)) ds (wipeS ρ1 (own.map (·.2))) with
    | ex x ρ1 => rw [e2] at k2; exact k2.elim
    | bad => rw [e2] at k2; exact k2.elim
    | ok es ρ2 =>
      rw [e2] at k2
      dsimp only at k2
      refine compM_loop r1 y hp hz e2 fun F' H' acc r2 s2 fp bp ep dd nj => ?_
      refine k2 (.ref p) H' (upd F' p (.lst acc)) ⟨fun a o ea => ?_, r2.bh, fun a o u e1 e2 => ?_, r2.len, fun i d ei => ?_, fun i t d ei => ?_, r2.dj, r2.pn⟩ (s2.trans (sm_upd fp)) (.lst upd_same (dd.same (sm_upd fp)))
      · by_cases z : a = p
        · subst z
          rw [upd_same] at ea
          cases ea
          exact ep
        · rw [upd_ne z] at ea
          exact r2.fh _ _ ea
      · by_cases z : a = p
        · subst z
          rw [bp] at e1; cases e1
        · rw [upd_ne z] at e2
          exact r2.zf a o u e1 e2
      · obtain ⟨v, h1, h2⟩ := r2.fz i d ei
        exact ⟨v, h1, h2.same (sm_upd fp)⟩
      · obtain ⟨q, w1, w2, w3, w4⟩ := r2.ow i t d ei
        have ne : q ≠ p := fun z => nj i t d ei (by rw [← z]; exact w1)
        exact ⟨q, w1, by rw [upd_ne ne]; exact w2, w3, w4.mono (sm_upd fp) fun _ h => h⟩
theorem mCompI_w {m : Env → MO (List D)} {g : Tgt} {c : Env → MO Bool} {f : Env → MO D} {vs : List Nat} {σ : St} {H : Hp} {Q : VK} (k : tMW K xm (mCompI vs m g c f) σ H Q) : tLc (iM K xm m) (gF K g) (bM K none c) (tM K none f) vs σ H Q := by
  obtain ⟨B, ρ, F, r, k⟩ := k
  refine ⟨B, ρ, F, r, ?_⟩
  unfold mCompI at k
  cases e : m ρ with
  | ex x ρ1 => rw [e] at k; exact k
  | bad => rw [e] at k; exact k.elim
  | ok ds ρ1 =>
    rw [e] at k
    dsimp only [MO.bind] at k
    by_cases hz : fit ds.length = true
    · rw [if_pos hz] at k
      intro J H1 F1 r1 s1 y p hp
      cases e2 : compM g c f vs ds (wipeS ρ1 vs) with
      | ex x ρ1 => rw [e2] at k; exact k.elim
      | bad => rw [e2] at k; exact k.elim
      | ok es ρ2 =>
        rw [e2] at k
        exact compM_loop r1 y hp hz e2 fun F' H' acc r2 s2 fp bp ep dd nj => k p H' F' r2 fp bp ⟨acc, ep, dd⟩ nj
    · rw [if_neg hz] at k; exact k.elim
theorem mw_compI {elt tg iter : Expr} {ifs : List Expr} {scope : Scope} {pos : Pos} (own : List (Str × Nat)) {m : Env → MO (List D)} {g : Tgt} {c : Env → MO Bool} {f : Env → MO D} (hN : X.N.Nodup) (hi : MI K xm X tg iter m)
    (hg : ∀ (s : Shared) (H : Hp) (C : Addr) (cl : List (Str × Addr)) (fp : List Addr), FG K (X.blk s H scope (compEnvC scope cl C X.env) fp) tg g) (ht : ∀ (s : Shared) (H : Hp) (C : Addr) (cl : List (Str × Addr)) (fp : List Addr), MTs K (X.blk s H scope (compEnvC scope cl C X.env) fp) ifs c)
    (he : ∀ (s : Shared) (H : Hp) (C : Addr) (cl : List (Str × Addr)) (fp : List Addr), ME K none (X.blk s H scope (compEnvC scope cl C X.env) fp) elt f)
    (ok : BlkOk X.N X.env.scope scope own) (hc : X.calm = true := by rfl) (hs : ∀ x, foldedSetIterable iter X.env x = pure x := by intro _; rfl) :
    MEW K xm X (.ListComp elt [⟨tg, iter, ifs, 0⟩] scope pos) (mCompI (own.map (·.2)) m g c f) := PE.to (pe_lc hc hN hi ok hg ht he hs) fun _ _ _ k => mCompI_w k
theorem fs_ownLcI {y : Str} {py : Pos} {elt tg iter : Expr} {ifs : List Expr} {scope : Scope} {pos spos : Pos} {m : Env → MO (List D)} {g : Tgt} {c : Env → MO Bool} {f : Env → MO D} (i : Nat) (own : List (Str × Nat)) (hN : X.N.Nodup) (hi : MI K xm X tg iter m)
    (hg : ∀ (s : Shared) (H : Hp) (C : Addr) (cl : List (Str × Addr)) (fp : List Addr), FG K (X.blk s H scope (compEnvC scope cl C X.env) fp) tg g) (ht : ∀ (s : Shared) (H : Hp) (C : Addr) (cl : List (Str × Addr)) (fp : List Addr), MTs K (X.blk s H scope (compEnvC scope cl C X.env) fp) ifs c)
    (he : ∀ (s : Shared) (H : Hp) (C : Addr) (cl : List (Str × Addr)) (fp : List Addr), ME K none (X.blk s H scope (compEnvC scope cl C X.env) fp) elt f)
    (ok : BlkOk X.N X.env.scope scope own) (hsw : swapsWith (.ListComp elt [⟨tg, iter, ifs, 0⟩] scope pos) (some (.Name y py)) spos.line X.env = pure true) (hy : X.N[i]? = some y := by rfl) (hyl : X.env.scope.names.lookup y = some .local := by rfl) (hc : X.calm = true := by rfl) (hs : ∀ x, foldedSetIterable iter X.env x = pure x := by intro _; rfl) :
    FS K xm X (.Assign [.Name y py] (.ListComp elt [⟨tg, iter, ifs, 0⟩] scope pos) spos) (sOwnM i (mCompI (own.map (·.2)) m g c f)) :=
  PS.to (ps_setLc (i := i) hc hN hy hyl hsw hi ok hg ht he hs) fun Dn σ H ⟨B, ρ, F, r, k⟩ => mCompI_w (Q := fun v H' => Dn.nx (σ.set i (some v)) H') ⟨B, ρ, F, r, ownM_at r k⟩
/-! x.extend(e) with state -/
def sExtM (i : Nat) (m : Env → MO D) : Env → Out := fun ρ => mAt m ρ fun d ρ1 => match d with
  | .lst es => chg ρ1 i fun ds => if fit (ds.length + es.length) = true then some (ds ++ es) else none
  | _ => .bad
theorem fs_extM {x : Str} {e : Expr} {m : Env → MO D} {p1 apos cpos pos : Pos} (i : Nat) (he : ME K xm X e m) (hN : X.N[i]? = some x := by rfl) (hv : Vis X.env.scope x := by first | exact Or.inl rfl | exact Or.inr (Or.inl rfl) | exact Or.inr (Or.inr rfl)) (hd : (x == ("__debug__" : Str)) = false := by decide)
    (hcd : (x == ("__classdict__" : Str)) = false := by decide) (hbase : attributeBase (.Name x p1) "extend" X.env (eval (.Name x p1) X.env) = eval (.Name x p1) X.env := by rfl)
    (hfew : ((backTo cpos (starEach [e] X.env)).all (fun x => !x.1) && (backToKw cpos (keywordEach [] X.env)).all (fun x => x.1.isSome) && decide (([e] : List Expr).length + ([] : List Keyword).length + (if ([] : List Keyword).isEmpty then 0 else 1) < 30)) = true := by rfl)
    (hline : (apos.endLine == cpos.line) = true := by rfl) (hs : starEach [e] X.env = (false, eval e X.env) :: starEach [] X.env := by rfl) (hplain : (backTo cpos (starEach [] X.env)).any (·.1) = false := by rfl)
    (hsw : swapsWith (.Call (.Attribute (.Name x p1) "extend" apos) [e] [] cpos) none pos.line X.env = pure false := by rfl) : FS K xm X (.Expr (.Call (.Attribute (.Name x p1) "extend" apos) [e] [] cpos) pos) (need i (sExtM i m)) :=
  PS.to (ps_expr (pe_bm PySem.F.plainAttrs_list PySem.F.slot_list_extend PySem.F.type_list_extend mt_extend (pv i hN hv hd hcd) (pa_cons he pa_nil hs) hbase hfew hline hs hplain) hsw) fun Dn σ H ⟨B, ρ, F, r, k⟩ => by
    obtain ⟨⟨t, ds, hi⟩, k⟩ := k.needE
    obtain ⟨p, xs, q1, q2, q3, q4⟩ := r.ownAt hi
    refine ⟨.ref p, q1, .inl ⟨rfl, _, SqL.of q2⟩, B, ρ, F, r, pm_at (R := RD K) r k fun d ρ1 v H' F' r' dv _ k' => ?_⟩
    cases d with
    | lst es =>
      obtain ⟨b, zs, rfl, hb, dz⟩ := dv.lstE
      obtain ⟨t', ds', es', h1, h2, k2⟩ := So.chgE k'
      obtain ⟨p', xs', w1, w2, w3, w4⟩ := r'.ownAt h1
      rw [q1] at w1
      cases w1
      by_cases f : fit (ds'.length + es.length) = true
      · rw [if_pos f] at h2
        cases h2
        exact ⟨p, b, xs', zs, rfl, rfl, w2, r'.fh _ _ hb, by rw [w3.length, dz.length]; exact Nat.le_of_lt (fit_line f), k2 _ _ _ (r'.write h1 q1 ⟨_, upd_same, w3.app dz⟩)⟩
      · rw [if_neg f] at h2
        cases h2
    | _ => exact k'.elim
/-! slices -/
def oM (K : PySem.W.Frag) (xm : XMo) (m : Env → MO (Option Int)) : TO := fun σ H Q => ∃ B ρ F, Rl K B σ H ρ F ∧ Pm RO K xm σ B F (m ρ) Q
abbrev MO' (K : PySem.W.Frag) (xm : XMo) (X : Cx) (e : Option Expr) (m : Env → MO (Option Int)) : Prop := PO X e (oM K xm m)
def mNo : Env → MO (Option Int) := fun ρ => .ok none ρ
def mYesO (m : Env → MO D) : Env → MO (Option Int) := fun ρ => (m ρ).bind fun d ρ1 => match d with
  | .int i => .ok (some i) ρ1
  | _ => .bad
theorem mo_no : MO' K xm X none mNo := PO.to po_none fun σ H Q ⟨B, ρ, F, r, k⟩ => k.done r rfl
theorem mo_yes {e : Expr} {m : Env → MO D} (h : ME K xm X e m) : MO' K xm X (some e) (mYesO m) := PO.to (po_some h) fun σ H Q ⟨B, ρ, F, r, k⟩ => ⟨B, ρ, F, r, Pm.seq k fun d ρ1 v H1 F1 r1 s1 d1 k1 => by
  cases d with
  | int i =>
    rw [d1.intE]
    exact ⟨_, rfl, k1.done r1 rfl⟩
  | _ => exact k1.elim⟩
def mSl (m : Env → MO D) (lo hi : Env → MO (Option Int)) : Env → MO D := fun ρ => (m ρ).bind fun a ρ1 => (lo ρ1).bind fun l ρ2 => (hi ρ2).bind fun h ρ3 => match dSl a l h with
  | .ok d => .ok d ρ3
  | _ => .bad
theorem Pm.new {d : D} {ρ : Env} {Q : VK} {p : Addr} {o : HO} (k : Pm (RD K) K xm σ B F (.ok d ρ) Q) (r : Rl K B σ H ρ F) (hp : H p = none) (hd : Dt K (upd F p o) (.ref p) d) : Q (.ref p) (upd H p o) :=
  k _ _ _ (r.grow (.new r.fh hp)) (sm_upd (r.fh.free hp)) hd
theorem me_sl {e : Expr} {lo hi : Option Expr} {p2 pos : Pos} {m : Env → MO D} {ml mh : Env → MO (Option Int)} (he : ME K xm X e m) (hl : MO' K xm X lo ml) (hh : MO' K xm X hi mh) (hk : X.K = K := by rfl) :
    ME K xm X (.Subscript e (.Slice lo hi none p2) pos) (mSl m ml mh) := PE.to (pe_slice (sl_all hk) he hl hh) fun σ H Q ⟨B, ρ, F, r, k⟩ => ⟨B, ρ, F, r, Pm.seq k fun a ρ1 x H1 F1 r1 s1 d1 k1 =>
  ⟨B, ρ1, F1, r1, Pm.seq k1 fun l ρ2 l' H2 F2 r2 s2 d2 k2 => ⟨B, ρ2, F2, r2, Pm.seq k2 fun h ρ3 h' H3 F3 r3 s3 d3 k3 => by
    subst d2 d3
    have s := r3.fh
    have d := (d1.same s2).same s3
    cases e3 : dSl a l' h' with
    | exc x => rw [e3] at k3; exact k3.elim
    | bad => rw [e3] at k3; exact k3.elim
    | ok d' =>
      rw [e3] at k3
      dsimp only at k3
      unfold dSl at e3
      split at e3
      · cases e3
        obtain ⟨p, xs, rfl, h1, h2⟩ := d.lstE
        exact .inl (.inl ⟨p, xs, rfl, SqL.of (s _ _ h1), fun q hq => k3.new r3 hq (.lst upd_same ((h2.cut l' h').same (sm_upd (s.free hq))))⟩)
      · cases e3
        obtain ⟨p, xs, rfl, h1, h2⟩ := d.tupE
        refine .inl (.inr ⟨p, xs, rfl, (Below.of s).sqt h1, fun w => ?_, fun _ q hq => k3.new r3 hq (.tup upd_same ((h2.cut l' h').same (sm_upd (s.free hq))))⟩)
        rw [h2.length] at w
        rw [cut_whole w] at k3
        exact k3.done r3 d
      · cases e3
        cases d with
        | scr h1 => exact .inl (.inl ⟨_, _, rfl, (Below.of s).sql h1, fun q hq => k3.new r3 hq (.lst upd_same (by rw [cutV_map]; exact Dt.ints _))⟩)
      · split at e3
        · rename_i f
          cases e3
          rw [d.strE]
          exact .inr ⟨_, rfl, Nat.le_of_lt (fit_line f), k3.done r3 (.str _)⟩
        · cases e3
      · cases e3⟩⟩⟩
end
end Du

namespace Du
open PySem PySem.Spec PyProof.Rows L2
section
variable {K : PySem.W.Frag} {xm : XMo} {X : Cx} {B : Bs} {F H : Hp} {σ : St} {ρ : Env} {Dn : Ends}
/-! ### what is made new may be read at once -/
theorem PoW.po {r : Res D} {Q : VK} (k : Po (RD K) K xm σ F H r Q) : PoW K xm σ F H r Q := by
  cases r with
  | ok d =>
    intro p F' H' g hp fp ow
    obtain ⟨o, ho⟩ := ow.some
    exact k _ _ _ (g.freeze hp fp ho) (ow.dt (sm_upd fp) fun u hu => by rw [upd_same, ← hu, ho])
  | exc x => exact k
  | bad => exact k
theorem fe_w {e : Expr} {f : VEnv → Res D} (h : FW' K xm X e f) : FE K xm X e f := PE.to h fun σ H Q ⟨F, ρ, sF, vw, k⟩ => ⟨F, ρ, sF, vw, PoW.po k⟩
/-! ### {k: v} -/
noncomputable def eDct1 (fk fv : VEnv → Res D) : VEnv → Res D := fun ρ => (fk ρ).bind fun k => (fv ρ).bind fun v => if dKeyOk k = true then .ok (.dct false [(k, v)]) else .bad
theorem fw_dct1 {k v : Expr} {pos : Pos} {fk fv : VEnv → Res D} (hk : FE K xm X k fk) (hv : FE K xm X v fv) : FW' K xm X (.Dict [some k] [v] pos) (eDct1 fk fv) :=
  PE.to (pe_disp (pps_cons hk hv pps_nil) (by rfl) (by rfl) (fun z => by cases z) (by simp)) fun σ H Q ⟨F, ρ, sF, vw, k⟩ => by
    intro p hp
    have g0 : Gr F H F (upd H p (.dK [])) := .hid sF hp
    unfold eDct1 at k
    refine ⟨F, ρ, g0.fh, vw, ?_⟩
    cases ek : fk ρ with
    | exc x => rw [ek] at k; exact Xw.mono k g0
    | bad => rw [ek] at k; exact k.elim
    | ok a =>
      rw [ek] at k
      dsimp only [Res.bind] at k
      intro x F1 H1 g1 d1
      refine ⟨F1, ρ, g1.fh, vw.same g1.ff, ?_⟩
      cases ev : fv ρ with
      | exc x => rw [ev] at k; exact Xw.mono k (g0.trans g1)
      | bad => rw [ev] at k; exact k.elim
      | ok b =>
        rw [ev] at k
        dsimp only at k
        intro y F2 H2 g2 d2
        obtain ⟨ok, k⟩ := PoW.ite k
        obtain ⟨key, ex, ea⟩ := keyE (d1.same g2.ff) ok
        have g12 := g1.trans g2
        have g := g0.trans g12
        have hp2 : H2 p = some (.dK []) := g12.hh _ _ upd_same
        have fp : F2 p = none := by
          cases z : F2 p with
          | none => rfl
          | some o =>
            rcases g12.nw _ _ z with y | y
            · rw [sF.free hp] at y; cases y
            · rw [upd_same] at y; cases y
        refine ⟨hp2, [(key, y)], by rw [ex]; rfl, by simp, ?_⟩
        refine k p F2 _ ⟨fun c o h => ?_, g.ff, fun c o h => ?_, g.nw⟩ hp fp ⟨_, upd_same, .cons d2 .nil, by rw [ea]; rfl⟩
        · rw [upd_ne fun z => by rw [z, hp] at h; cases h]
          exact g.hh _ _ h
        · rw [upd_ne fun z => by rw [z, fp] at h; cases h]
          exact g.fh _ _ h
/-! ### for k in d, list(d) -/
theorem pi_dk {tg : Expr} {x : Str} {pos : Pos} (i : Nat) (hN : X.N[i]? = some x := by rfl) (hv : Vis X.env.scope x := by first | exact Or.inl rfl | exact Or.inr (Or.inl rfl) | exact Or.inr (Or.inr rfl)) (hd : (x == ("__debug__" : Str)) = false := by decide)
    (hcd : (x == ("__classdict__" : Str)) = false := by decide) : PI X tg (.Name x pos) (iDict i Itk) := PI.to (pi_keys (pv i hN hv hd hcd)) fun σ H R ⟨v, h1, d, o, kvs, e, h2, h3⟩ => ⟨v, h1, d, o, e, .inl ⟨kvs, h2, h3⟩⟩
theorem pi_dv {tg : Expr} {x : Str} {pos apos cpos : Pos} (i : Nat) (hN : X.N[i]? = some x := by rfl) (hv : Vis X.env.scope x := by first | exact Or.inl rfl | exact Or.inr (Or.inl rfl) | exact Or.inr (Or.inr rfl)) (hd : (x == ("__debug__" : Str)) = false := by decide)
    (hcd : (x == ("__classdict__" : Str)) = false := by decide) (hbase : attributeBase (.Name x pos) "values" X.env (eval (.Name x pos) X.env) = eval (.Name x pos) X.env := by rfl) (hline : (apos.endLine == cpos.line) = true := by rfl) : PI X tg (.Call (.Attribute (.Name x pos) "values" apos) [] [] cpos) (iDict i Itd) := pi_values (pv i hN hv hd hcd) hbase hline
theorem pi_di {elts : List Expr} {kk : Nat} {tpos : Pos} {x : Str} {pos apos cpos : Pos} (i : Nat) (hN : X.N[i]? = some x := by rfl) (hv : Vis X.env.scope x := by first | exact Or.inl rfl | exact Or.inr (Or.inl rfl) | exact Or.inr (Or.inr rfl)) (hd : (x == ("__debug__" : Str)) = false := by decide)
    (hcd : (x == ("__classdict__" : Str)) = false := by decide) (hbase : attributeBase (.Name x pos) "items" X.env (eval (.Name x pos) X.env) = eval (.Name x pos) X.env := by rfl) (hline : (apos.endLine == cpos.line) = true := by rfl) : PI X (.Tuple elts kk tpos) (.Call (.Attribute (.Name x pos) "items" apos) [] [] cpos) (iDict i Iti) := pi_items (pv i hN hv hd hcd) hbase hline
def dListD : List D → Res D
  | [.dct false ds] => .ok (.lst (qKeys ds))
  | _ => .bad
theorem keys_dt {F : Hp} : ∀ kvs : List (Key × V), DtAll K F (kvs.map fun kv => kV kv.1) (kvs.map fun p => keyD p.1)
  | [] => .nil
  | p :: r => .cons (keyD_dt p.1) (keys_dt r)
theorem wd_listD : ∀ (xm : XMo) σ F H xs ds Q, Same F H → DtAll K F xs ds → PoW K xm σ F H (dListD ds) Q → ∃ (a : Addr) (kvs : List (Key × V)), xs = [.ref a] ∧ Rd H a (.dK kvs) ∧ ∀ p, H p = none → Q (.ref p) (upd H p (.lst (kvs.map fun kv => kV kv.1))) := by
  intro xm σ F H xs ds Q s hd k
  unfold dListD at k
  split at k
  · obtain ⟨v, rfl, h⟩ := hd.one
    obtain ⟨a, kvs, rfl, h3, h4, h5⟩ := h.dctE
    exact ⟨a, kvs, rfl, (Below.of s).rd h3, fun l hl => k.new s hl ⟨_, upd_same, by unfold qKeys; rw [h5]; exact keys_dt kvs⟩⟩
  · exact k.elim
/-! ### e[::-1] -/
def dRev : D → Res D
  | .lst ds => .ok (.lst ds.reverse)
  | .scr ns => .ok (.lst (ns.map D.int).reverse)
  | _ => .bad
theorem fw_rev {e : Expr} {f : VEnv → Res D} {k : Nat} {p1 p2 p3 pos : Pos} (he : FE K xm X e f) (hk : X.K = K := by rfl) : FW' K xm X (.Subscript e (.Slice none none (some (.UnaryOp .USub (.Constant (.int 1) k p1) p2)) p3) pos) (eUn dRev f) := by
  subst hk
  refine PE.to (pe_revL he) fun σ H Q ⟨F, ρ, sF, vw, k⟩ => ⟨F, ρ, sF, vw, PoW.seq k fun d v F1 H1 g1 d1 k1 => ?_⟩
  unfold dRev at k1
  split at k1
  · obtain ⟨p, xs, rfl, h1, h2⟩ := d1.lstE
    exact ⟨p, xs, rfl, SqL.of (g1.fh _ _ h1), fun q hq => k1.new g1.fh hq ⟨_, upd_same, h2.rev⟩⟩
  · cases d1 with
    | scr h1 => exact ⟨_, _, rfl, (Below.of g1.fh).sql h1, fun q hq => k1.new g1.fh hq ⟨_, upd_same, (Dt.ints _).rev⟩⟩
  · exact k1.elim
/-! ### list(range(..)) -/
def okR (a b : Int) : Bool := decide (-(2 ^ 62) ≤ a ∧ a < 2 ^ 62 ∧ -(2 ^ 62) ≤ b ∧ b < 2 ^ 62 ∧ (b - a).toNat ≤ 2 ^ 24)
def dLrg (lo hi : D) : Res D := match lo, hi with
  | .int a, .int b => if okR a b = true then .ok (.lst (rangeD a (b - a).toNat)) else .bad
  | _, _ => .bad
theorem rg_dt {F : Hp} (a b : Int) : DtAll K F (rgV a b) (rangeD a (b - a).toNat) := by
  unfold rgV rangeD
  generalize List.range (b - a).toNat = l
  induction l with
  | nil => exact .nil
  | cons i r ih => exact .cons (.int _) ih
theorem fw_lrg1 {a : Expr} {f : VEnv → Res D} {p p2 pos pos2 : Pos} (hm : X.mg "list" = none) (hm2 : X.mg "range" = none) (he : FE K xm X a f) (hc : X.calm = true := by rfl) (hg : Gl X "list" := by rfl) (hg2 : Gl X "range" := by rfl)
    (na : starEach [a] X.env = (false, eval a X.env) :: starEach [] X.env := by rfl) (na2 : starEach [.Call (.Name "range" p2) [a] [] pos2] X.env = (false, eval (.Call (.Name "range" p2) [a] [] pos2) X.env) :: starEach [] X.env := by rfl) :
    FW' K xm X (.Call (.Name "list" p) [.Call (.Name "range" p2) [a] [] pos2] [] pos) (eUn (dLrg (.int 0)) f) :=
  PE.to (pe_listRg hc hg hm (prg_1 hg2 hm2 he na) na2) fun σ H Q ⟨F, ρ, sF, vw, k⟩ => ⟨F, ρ, sF, vw, PoW.seq k fun d v F1 H1 g1 d1 k1 => by
    cases d with
    | int n =>
      obtain ⟨f, k1⟩ := PoW.ite k1
      have f := of_decide_eq_true f
      exact ⟨n, d1.intE, f, fun q hq => k1.new g1.fh hq ⟨_, upd_same, rg_dt 0 n⟩⟩
    | _ => exact k1.elim⟩
theorem fw_lrg2 {a b : Expr} {f g : VEnv → Res D} {p p2 pos pos2 : Pos} (hm : X.mg "list" = none) (hm2 : X.mg "range" = none) (he : FE K xm X a f) (hb : FE K xm X b g) (hc : X.calm = true := by rfl) (hg : Gl X "list" := by rfl) (hg2 : Gl X "range" := by rfl)
    (na : starEach [a, b] X.env = (false, eval a X.env) :: starEach [b] X.env := by rfl) (nb : starEach [b] X.env = (false, eval b X.env) :: starEach [] X.env := by rfl) (hp : (backTo pos2 (starEach [b] X.env)).any (·.1) = false := by rfl) (na2 : starEach [.Call (.Name "range" p2) [a, b] [] pos2] X.env = (false, eval (.Call (.Name "range" p2) [a, b] [] pos2) X.env) :: starEach [] X.env := by rfl) :
    FW' K xm X (.Call (.Name "list" p) [.Call (.Name "range" p2) [a, b] [] pos2] [] pos) (eOp dLrg f g) :=
  PE.to (pe_listRg hc hg hm (prg_2 hg2 hm2 he hb na nb hp) na2) fun σ H Q ⟨F, ρ, sF, vw, k⟩ => ⟨F, ρ, sF, vw, PoW.seq k fun d v F1 H1 g1 d1 k1 => ⟨F1, ρ, g1.fh, vw.same g1.ff, PoW.seq k1 fun e u F2 H2 g2 d2 k2 => by
    unfold dLrg at k2
    split at k2
    · obtain ⟨f, k2⟩ := PoW.ite k2
      have f := of_decide_eq_true f
      exact ⟨_, _, d1.intE, d2.intE, f, fun q hq => k2.new g2.fh hq ⟨_, upd_same, rg_dt _ _⟩⟩
    · exact k2.elim⟩⟩
/-! ### sorted(e): few whole numbers -/
theorem insI_perm (n : Int) : ∀ l, (insI n l).Perm (n :: l)
  | [] => .refl _
  | m :: r => by
    unfold insI
    split
    · exact .refl _
    · exact ((insI_perm n r).cons m).trans (.swap n m r)
theorem sortI_perm : ∀ l, (sortI l).Perm l
  | [] => .refl _
  | n :: r => (insI_perm n (sortI r)).trans ((sortI_perm r).cons n)
theorem insI_sorted (n : Int) : ∀ l : List Int, l.Pairwise (· ≤ ·) → (insI n l).Pairwise (· ≤ ·)
  | [], _ => List.pairwise_singleton _ _
  | m :: r, h => by
    unfold insI
    have hm := List.pairwise_cons.mp h
    split
    · rename_i c
      exact List.pairwise_cons.mpr ⟨fun x hx => (List.mem_cons.mp hx).elim (fun e => e ▸ c) (fun z => Int.le_trans c (hm.1 x z)), h⟩
    · rename_i c
      refine List.pairwise_cons.mpr ⟨fun x hx => ?_, insI_sorted n r hm.2⟩
      rcases List.mem_cons.mp ((insI_perm n r).mem_iff.mp hx) with e | z
      · rw [e]; omega
      · exact hm.1 x z
theorem sortI_sorted : ∀ l : List Int, (sortI l).Pairwise (· ≤ ·)
  | [] => .nil
  | n :: r => insI_sorted n _ (sortI_sorted r)
theorem sortI_uniq {l m : List Int} (h : m.Perm l) (s : m.Pairwise (· ≤ ·)) : m = sortI l :=
  List.Perm.eq_of_pairwise (le := (· ≤ ·)) (fun a b _ _ h1 h2 => Int.le_antisymm h1 h2) s (sortI_sorted l) (h.trans (sortI_perm l).symm)
def dSorted : List D → Res D
  | [.lst ds] => match asInts ds with
    | some ns => if decide (ns.length < 64) = true then .ok (.lst ((sortI ns).map D.int)) else .bad
    | none => .bad
  | _ => .bad
theorem wd_sorted : ∀ (xm : XMo) σ F H xs ds Q, Same F H → DtAll K F xs ds → PoW K xm σ F H (dSorted ds) Q → rSorted K xs H Q := by
  intro xm σ F H xs ds Q s hd k
  unfold dSorted at k
  split at k
  · obtain ⟨v, rfl, h⟩ := hd.one
    obtain ⟨p, ys, rfl, h1, h2⟩ := h.lstE
    split at k
    · rename_i ns e
      obtain ⟨f, k⟩ := PoW.ite k
      rw [asInts_of e] at h2
      rw [h2.intsE] at h1
      refine ⟨p, ns, rfl, SqL.of (s _ _ h1), of_decide_eq_true f, fun ns' q pm so hq => ?_⟩
      rw [sortI_uniq pm so]
      exact k.new s hq ⟨_, upd_same, Dt.ints _⟩
    · exact k.elim
  · exact k.elim
theorem fw_callB {x : Str} {id : String} {r : List V → Hp → VK → Prop} {g : List D → Res D} {e : Expr} {es : List Expr} {p pos : Pos} {fa : VEnv → Res (List D)} (hc : CallR X (.builtin id) r) (h : ∀ (xm : XMo) σ F H xs ds Q, Same F H → DtAll K F xs ds → PoW K xm σ F H (g ds) Q → r xs H Q) (hm : X.mg x = none) (ha : FA K xm X (e :: es) fa) (hg : Gl X x := by rfl) (hv : bootBuiltins x = some (.builtin id) := by decide +kernel)
    (hn : x ≠ "__name__" := by decide) (hdb : (x == ("__debug__" : Str)) = false := by decide) (he : starEach (e :: es) X.env = (false, eval e X.env) :: starEach es X.env := by rfl) (hpl : (backTo pos (starEach es X.env)).any (·.1) = false := by rfl) :
    FW' K xm X (.Call (.Name x p) (e :: es) [] pos) (eCall g fa) := PE.to (pe_callB hc hg hm hv ha hn hdb he hpl) fun σ H Q ⟨F, ρ, sF, vw, k⟩ => ⟨F, ρ, sF, vw, PoW.seq k fun ds vs F1 H1 g1 d1 k1 => h xm σ F1 H1 vs ds Q g1.fh d1 k1⟩
/-! ### is True, is False -/
def dIsB (neg : Bool) : D → D → Res D
  | .bl a, .bl b => .ok (.bl (if neg then !decide (a = b) else decide (a = b)))
  | _, _ => .bad
theorem opd_isB : OpD K rIsB (dIsB false) := by
  intro xm σ F H x y a b Q s h1 h2 k
  unfold dIsB at k
  split at k
  · rw [h1.blE, h2.blE]
    exact ⟨_, _, rfl, rfl, k.done s (.bl _)⟩
  · exact k.elim
theorem opd_notB : OpD K rNotB (dIsB true) := by
  intro xm σ F H x y a b Q s h1 h2 k
  unfold dIsB at k
  split at k
  · rw [h1.blE, h2.blE]
    exact ⟨_, _, rfl, rfl, k.done s (.bl _)⟩
  · exact k.elim
theorem gb_isB {n : Bool} : ∀ x y d, dIsB n x y = .ok d → ∃ b, d = .bl b := fun x y d h => by
  unfold dIsB at h
  split at h
  · cases h; exact ⟨_, rfl⟩
  · cases h
/-! ### range(a, b, 2) -/
theorem len3 {f g h : VEnv → Res D} : ∀ ρ ds, aCons f (aCons g (aCons h aNil)) ρ = .ok ds → ds.length = 3 := fun ρ ds e => by
  unfold aCons aNil at e
  cases e1 : f ρ <;> rw [e1] at e <;> try cases e
  rename_i a
  dsimp only [Res.bind] at e
  cases e2 : g ρ <;> rw [e2] at e <;> try cases e
  dsimp only at e
  cases e3 : h ρ <;> rw [e3] at e <;> cases e
  rfl
/-! ### state: list(x.items()), x own; the own dict's change at a place reckoned with state -/
def mItems (i : Nat) : Env → MO D := fun ρ => match ownD ρ i with
  | some (_, ds) => if fit ds.length = true then .ok (.lst (qItems ds)) ρ else .bad
  | none => .bad
end
section
variable {P : Program} {w : World} {K : PySem.W.Frag} {mg : Str → Option Value} {base : Heap}
theorem okD0 {x : Str} {st : Stmt} {N ps : List Str} {dvs : List V} {k : Nat} {g : Env → Out} (D : Dear.DfD K mg x st ps dvs) (S : FnScope N ps (defScope st))
    (body : ∀ (f : Addr) (cdv : Value) (A : Around) (outer : List PySem.Env) (s : Shared) (H : Hp) (E : XK), Room k (A.deeper (envOfC x (defScope st) s.heap.objs.size f cdv)) → FSs K none (cxOf CX0 P w K mg base N x (defScope st) f cdv A outer s H E).nox (defBody st) g)
    (hN : ps.length ≤ N.length := by decide) : Dear.OkD P w K mg base CX0 (k + 1) x ps dvs (sp0 K (runD ps.length N.length g)) :=
  D.ok S (fun vs H Q E h => sp0_len (f := runD ps.length N.length g) h) fun f cdv A outer s H vs Q E hr h => ⟨_, PSs.nox (body f cdv A outer s H E hr), by
    obtain ⟨ds, G, sG, hd, d, e, q⟩ := h
    unfold runD at e
    by_cases hn : ds.length = ps.length
    · rw [if_pos hn] at e
      refine ⟨⟨H, G, 0⟩, _, G, Rl.start sG hd hn hN, ?_⟩
      unfold outR at e
      cases e2 : g (ent N.length ps.length ds) with
      | nx ρ =>
        rw [e2] at e
        cases e
        intro σ' H' F' r
        obtain ⟨G', g1, d1⟩ := r.done sG
        exact q _ _ _ g1 .non
      | rt d' ρ =>
        rw [e2] at e
        cases e
        intro v σ' H' F' r dv
        obtain ⟨G', g1, d1⟩ := r.done sG
        exact q _ _ _ g1 (dv.same d1)
      | ro d' ρ =>
        rw [e2] at e
        cases e
        intro p σ' H' F' r fp bp ow
        obtain ⟨G', g1, d1⟩ := r.freeze sG fp bp ow
        exact q _ _ _ g1 d1
      | bk ρ => rw [e2] at e; cases e
      | ct ρ => rw [e2] at e; cases e
      | ex x ρ => rw [e2] at e; cases e
      | bad => rw [e2] at e; cases e
    · rw [if_neg hn] at e
      cases e⟩

theorem OkD.full {x : Str} {ps : List Str} {dvs : List V} {k : Nat} {sp : Sp} (h : Dear.OkD P w K mg base CX0 k x ps dvs sp) : Dear.OkF P w K mg base CX0 k x ps sp := by
  obtain ⟨f, fd, hm, hkp, _, hb, F⟩ := h
  exact ⟨f, fd, hm, hkp, hb, F⟩
end
section
variable {K : PySem.W.Frag} {xm : XMo} {X : Cx}
/-- the defaults fill up -/
theorem fe_callD {x : Str} {k k' : Nat} {ps : List Str} {dvs : List V} {dd : List D} {f : List D → Res D} {e : Expr} {es : List Expr} {p pos : Pos} {fa : VEnv → Res (List D)} (O : Dear.OkD X.prog X.w X.K X.mg X.base CX0 k x ps dvs (sp0 K f)) (hdv : ∀ F, DtAll K F dvs dd) (hr : Room k' X.A) (ha : FA K none X (e :: es) fa) (hk : k ≤ k' := by decide) (hg : Gl X x := by rfl)
    (hdb : (x == ("__debug__" : Str)) = false := by decide) (he : starEach (e :: es) X.env = (false, eval e X.env) :: starEach es X.env := by rfl) (hpl : (backTo pos (starEach es X.env)).any (·.1) = false := by rfl) : FE K none X (.Call (.Name x p) (e :: es) [] pos) (eCall (fun ds => f (ds ++ dd)) fa) := by
  obtain ⟨fa', fd, hm, hkp, ⟨ds, hv, hb⟩, _, F⟩ := O
  exact PE.to (pe_call F (hr.mono hk) hg hm hkp hb hv pass0 ha hdb he hpl) fun σ H Q ⟨F, ρ, sF, vw, k⟩ => ⟨F, ρ, sF, vw, Po.seq k fun ds vs F1 H1 g1 d1 k1 => by
    refine ⟨ds ++ dd, F1, g1.fh, d1.app (hdv F1), ?_⟩
    cases e : f (ds ++ dd) with
    | ok d => rw [e] at k1; exact ⟨d, rfl, k1⟩
    | exc x => rw [e] at k1; exact k1.elim
    | bad => rw [e] at k1; exact k1.elim⟩
end
end Du
namespace Du
open PySem PySem.Spec PyProof.Rows L2
section
variable {K : PySem.W.Frag} {xm : XMo} {X : Cx}
theorem yl_rngC {F : Hp} (lo c : Int) (n : Nat) : Yl K F (Itc lo c n) ((List.range n).map fun k => .int (lo + (k : Nat) * c)) := by
  have l : ((List.range n).map fun k => D.int (lo + (k : Nat) * c)).length = n := by rw [List.length_map, List.length_range]
  refine ⟨fun i H hi s => (by rw [l] at hi; exact hi), fun i e F1 H x H' he s s1 y => ?_, fun H s => (by rw [l]; exact Nat.le_refl _)⟩
  obtain ⟨rfl, rfl⟩ := y
  rw [List.getElem?_map] at he
  obtain ⟨j, h1, rfl⟩ := Option.map_eq_some_iff.mp he
  obtain ⟨h2, h3⟩ := List.getElem?_eq_some_iff.mp h1
  rw [List.getElem_range] at h3
  subst h3
  exact ⟨F1, .refl s1, .int _⟩
end
end Du

namespace Dear
open PySem PySem.Spec PyProof.Rows L2
/-! ### xs[::e], e one or minus one -/
def tRevE (K : PySem.W.Frag) (te ts : TE) : TE := fun σ H Q => te σ H fun x H1 => tPart ts σ H1 fun o H2 => ∃ (a : Addr) (xs : List V) (b : Bool), x = .ref a ∧ o = some (if b then -1 else 1) ∧ SqL K H2 a xs ∧ ∀ p, H2 p = none → Q (.ref p) (upd H2 p (.lst (if b then xs.reverse else xs)))
theorem pick_all (items : List Value) : slicePick items.toArray none none (some 1) = items.toArray := by
  have e : slicePick items.toArray none none (some 1) = slicePick items.toArray none none none := rfl
  rw [e, slicePick_cut]
  simp [HT.sIx]
theorem pe_revE {X : Cx} (K : PySem.W.Frag) {e st : Expr} {te ts : TE} {p3 pos : Pos} (he : PE X e te) (hs : PE X st ts) (hk : X.K = K := by rfl) : PE X (.Subscript e (.Slice none none (some st) p3) pos) (tRevE K te ts) := by
  subst hk
  refine ⟨fun pins s σ H Q I h => ?_⟩
  refine Subscript_ (thn (he.run pins s σ H _ I h) fun v s1 ⟨x, H1, I1, r1, q1⟩ => ?_)
  have hst : PO X (some st) (tPart ts) := po_some hs
  refine wpAny_Slice (thn (po_none.run pins s1 σ H1 (fun o H2 => o = none ∧ H2 = H1) I1 ⟨rfl, rfl⟩) fun vl s2 ⟨l, H2, I2, pl, el, e2⟩ => ?_)
  subst el e2
  refine thn (po_none.run pins s2 σ H2 (fun o H3 => o = none ∧ H3 = H2) I2 ⟨rfl, rfl⟩) fun vu s3 ⟨u, H3, I3, pu, eu, e3⟩ => ?_
  subst eu e3
  refine thn (hst.run pins s3 σ H3 _ I3 q1) fun vs s4 ⟨o, H4, I4, ps, a, xs, b, ex, eo, hx, q⟩ => ?_
  subst ex eo
  cases r1
  have I5 : Inv X pins σ H4 { s4 with heap := s4.heap.push { cls := .type "slice", data := .fields #[vl, vu, vs] } } := I4.kept (t' := s4.toks) fun b ob q => Heap.get?_push_of_some _ q
  obtain ⟨its, r, ht, hz⟩ := I5.list hx
  have hlen := r.length
  show wpAny (model X.prog X.w) X.A (subscriptTail e (.Slice none none (some st) p3) (.ref a) (.ref s4.heap.objs.size)) (EP X pins σ Q) X.xe { s4 with heap := s4.heap.push { cls := .type "slice", data := .fields #[vl, vu, vs] } }
  refine tail_any (ops := [.ref a, .ref s4.heap.objs.size]) ht.isList.typeIs (PySem.slot_list_getitem.lookup) ?_ (by with_unfolding_all rfl)
  refine wpAny_getItem_list_slice ht.isList (Heap.IsSliceOf.new _ vl vu vs) pl pu ps (by cases b <;> decide) ?_ (by rw [List.size_toArray]; omega)
  cases b with
  | true =>
    rw [show (if true = true then (-1 : Int) else 1) = -1 from rfl, PySem.W.krv_pick]
    refine ⟨.ref _, _, I5.laid (t' := s4.toks) (o := .lst xs.reverse) (fun b ob q => Heap.get?_push_of_some _ q) (Nat.le_refl _) ?_, rfl, q _ (I5.hok.fresh (Nat.le_refl _))⟩
    exact ⟨by rw [List.length_reverse]; exact hz, _, 0, r.reverse, Heap.get?_push_size _ rfl⟩
  | false =>
    rw [show (if false = true then (-1 : Int) else 1) = 1 from rfl, pick_all]
    refine ⟨.ref _, _, I5.laid (t' := s4.toks) (o := .lst xs) (fun b ob q => Heap.get?_push_of_some _ q) (Nat.le_refl _) ?_, rfl, q _ (I5.hok.fresh (Nat.le_refl _))⟩
    exact ⟨hz, _, 0, r, Heap.get?_push_size _ rfl⟩
end Dear

namespace Du
open PySem PySem.Spec PyProof.Rows L2
section
variable {K : PySem.W.Frag} {xm : XMo} {X : Cx} {B : Bs} {F H : Hp} {σ : St} {ρ : Env} {Dn : Ends}
theorem rangeSize_two (a b : Int) : Builtin.Range.rangeSize a b 2 = (((b - a + 1) / 2).toNat : Int) := by
  unfold Builtin.Range.rangeSize
  simp only [show (2 : Int) > 0 by decide, if_true]
  split <;> omega
theorem small_two {a b : Int} (ha : -(2 ^ 62) ≤ a) (ha' : a < 2 ^ 62) (hb : -(2 ^ 62) ≤ b) (hb' : b < 2 ^ 62) : Builtin.Range.small a b 2 = true := by
  unfold Builtin.Range.small
  unfold Builtin.Range.rangeSize
  simp only [Builtin.Range.rangeFitsLong, Bool.and_eq_true, Bool.or_eq_true, decide_eq_true_eq, beq_iff_eq, show (2 : Int) > 0 by decide, if_true]
  split <;> omega
theorem fi_range3 {tg a b c : Expr} {p pos : Pos} {f : VEnv → Res (List D)} (hm : X.mg "range" = none) (h : FA K xm X [a, b, c] f) (h1 : ∀ ρ ds, f ρ = .ok ds → ds.length = 3) (hg : Gl X "range" := by rfl)
    (hs : starEach [a, b, c] X.env = (false, eval a X.env) :: starEach [b, c] X.env := by rfl) (hpl : (backTo pos (starEach [b, c] X.env)).any (·.1) = false := by rfl) :
    FI K xm X tg (.Call (.Name "range" p) [a, b, c] [] pos) (iRange f) := PI.to (pi_range3 hg hm h hs hpl) fun σ H R ⟨F, ρ, sF, vw, k⟩ => by
  unfold iRange at k
  cases e : f ρ with
  | exc x => rw [e] at k; exact ⟨F, ρ, sF, vw, by rw [e]; exact k⟩
  | bad => rw [e] at k; exact k.elim
  | ok ds =>
    rw [e] at k
    refine ⟨F, ρ, sF, vw, ?_⟩
    rw [e]
    intro vs F1 H1 g1 d1
    have hl := h1 ρ ds e
    dsimp only [Res.bind] at k
    unfold dRange at k
    split at k
    · cases hl
    · cases hl
    · rename_i i j
      obtain ⟨f, k⟩ := Po.ite k
      rw [Bool.and_eq_true] at f
      have f1 := of_decide_eq_true f.1
      have f2 := of_decide_eq_true f.2
      cases d1 with
      | cons x1 r1 => cases r1 with
        | cons x2 r2 => cases r2 with
          | cons x3 r3 =>
            cases r3
            rw [x1.intE, x2.intE, x3.intE]
            refine ⟨i, j, -1, (i - j).toNat, rfl, .neg f1.1 f1.2 f2.1 f2.2, k _ F1 H1 g1 ?_⟩
            have := yl_rngC (K := K) (F := F1) i (-1) (i - j).toNat
            have e2 : (fun k : Nat => D.int (i + (k : Int) * (-1))) = fun k : Nat => D.int (i - (k : Int)) := by
              funext k; congr 1; omega
            rw [e2] at this
            exact this
    · rename_i i j
      obtain ⟨f, k⟩ := Po.ite k
      rw [Bool.and_eq_true] at f
      have f1 := of_decide_eq_true f.1
      have f2 := of_decide_eq_true f.2
      cases d1 with
      | cons x1 r1 => cases r1 with
        | cons x2 r2 => cases r2 with
          | cons x3 r3 =>
            cases r3
            rw [x1.intE, x2.intE, x3.intE]
            refine ⟨i, j, 2, ((j - i + 1) / 2).toNat, rfl, ⟨by decide, by decide, small_two f1.1 f1.2 f2.1 f2.2, rangeSize_two i j⟩, k _ F1 H1 g1 ?_⟩
            have := yl_rngC (K := K) (F := F1) i 2 ((j - i + 1) / 2).toNat
            have e2 : (fun k : Nat => D.int (i + (k : Int) * 2)) = fun k : Nat => D.int (i + 2 * (k : Int)) := by
              funext k; congr 1; omega
            rw [e2] at this
            exact this
    · exact k.elim
/-! ### xs[::e], e one or minus one, with state -/
def mRevE (m n : Env → MO D) : Env → MO D := fun ρ => (m ρ).bind fun a ρ1 => (n ρ1).bind fun b ρ2 => match a, b with
  | .lst ds, .int i => if decide (i = -1) = true then .ok (.lst ds.reverse) ρ2 else if decide (i = 1) = true then .ok (.lst ds) ρ2 else .bad
  | _, _ => .bad
theorem me_revE {e st : Expr} {m n : Env → MO D} {p3 pos : Pos} (he : ME K xm X e m) (hs : ME K xm X st n) (hk : X.K = K := by rfl) : ME K xm X (.Subscript e (.Slice none none (some st) p3) pos) (mRevE m n) :=
  PE.to (Dear.pe_revE K he hs hk) fun σ H Q ⟨B, ρ, F, r, k⟩ => ⟨B, ρ, F, r, Pm.seq k fun a ρ1 x H1 F1 r1 s1 d1 k1 => ⟨B, ρ1, F1, r1, Pm.seq k1 fun b ρ2 y H2 F2 r2 s2 d2 k2 => by
    cases a with
    | lst ds =>
      cases b with
      | int i =>
        obtain ⟨p, xs, rfl, h1, h2⟩ := d1.lstE
        have k2 : Pm (RD K) K xm σ B F2 (if decide (i = -1) = true then MO.ok (.lst ds.reverse) ρ2 else if decide (i = 1) = true then MO.ok (.lst ds) ρ2 else .bad) Q := k2
        by_cases c : i = -1
        · rw [if_pos (decide_eq_true c)] at k2
          refine ⟨i, d2.intE, p, xs, true, rfl, by rw [c]; rfl, SqL.of (r2.fh _ _ (s2 _ _ h1)), fun q hq => ?_⟩
          exact k2.new r2 hq (.lst upd_same (((h2.same s2).rev).same (sm_upd (r2.fh.free hq))))
        · rw [if_neg (by simpa using c)] at k2
          obtain ⟨c1, k2⟩ := Pm.ite k2
          refine ⟨i, d2.intE, p, xs, false, rfl, by rw [of_decide_eq_true c1]; rfl, SqL.of (r2.fh _ _ (s2 _ _ h1)), fun q hq => ?_⟩
          exact k2.new r2 hq (.lst upd_same ((h2.same s2).same (sm_upd (r2.fh.free hq))))
      | _ => exact k2.elim
    | _ => exact k2.elim⟩⟩
/-! ### list(x.items()), x own -/
theorem items_dt {F' H' : Hp} : ∀ {ts : List Addr} {kvs : List (Key × V)} {ds : List (D × D)}, Paired (fun (t : Addr) (q : Key × V) => H' t = some (.tup [kV q.1, q.2])) ts kvs → (∀ t ∈ ts, F' t = H' t) →
    DtAll K F' (kvs.map (·.2)) (ds.map (·.2)) → ds.map (·.1) = kvs.map (fun p => keyD p.1) → DtAll K F' (ts.map V.ref) (qItems ds)
  | _, _, [], .nil, _, _, _ => .nil
  | _, _, _ :: _, .nil, _, _, e => by cases e
  | _, _, [], .cons _ _, _, _, e => by cases e
  | _, _, a :: r, .cons h t, hi, hv, e => by
    rw [List.map_cons, List.map_cons] at hv e
    cases hv with
    | cons v1 v2 =>
      rw [List.cons.injEq] at e
      refine .cons (.tup (by rw [hi _ List.mem_cons_self]; exact h) (.cons (by rw [e.1]; exact keyD_dt _) (.cons v1 .nil))) (items_dt t (fun x hx => hi x (List.mem_cons_of_mem _ hx)) v2 e.2)
theorem me_items {x : Str} {p p1 apos cpos pos : Pos} (i : Nat) (hm : X.mg "list" = none) (hg : Gl X "list" := by rfl) (hc : X.calm = true := by rfl) (hN : X.N[i]? = some x := by rfl) (hv : Vis X.env.scope x := by first | exact Or.inl rfl | exact Or.inr (Or.inl rfl) | exact Or.inr (Or.inr rfl)) (hd : (x == ("__debug__" : Str)) = false := by decide)
    (hcd : (x == ("__classdict__" : Str)) = false := by decide) (hbase : attributeBase (.Name x p1) "items" X.env (eval (.Name x p1) X.env) = eval (.Name x p1) X.env := by rfl) (hline : (apos.endLine == cpos.line) = true := by rfl)
    (hs : starEach [.Call (.Attribute (.Name x p1) "items" apos) [] [] cpos] X.env = (false, eval (.Call (.Attribute (.Name x p1) "items" apos) [] [] cpos) X.env) :: starEach [] X.env := by rfl) (hb : bootBuiltins "list" = some (.type "list") := by decide +kernel) :
    ME K xm X (.Call (.Name "list" p) [.Call (.Attribute (.Name x p1) "items" apos) [] [] cpos] [] pos) (mItems i) :=
  PE.to (LiI.pe_listItems hc (pv i hN hv hd hcd) hg hm hb hbase hline hs) fun σ H Q ⟨B, ρ, F, r, k⟩ => by
    unfold mItems at k
    cases e : ownD ρ i with
    | none => rw [e] at k; exact k.elim
    | some td =>
      obtain ⟨t, ds⟩ := td
      rw [e] at k
      dsimp only at k
      obtain ⟨_, k⟩ := Pm.ite k
      obtain ⟨d, kvs, q1, q2, q3, q4⟩ := r.ownDAt (ownD_of e)
      refine ⟨.ref d, q1, d, kvs, rfl, q2, fun H' p ts hh hp ht npt hl pr => ?_⟩
      let F' : Hp := fun a => if a = p ∨ a ∈ ts then H' a else F a
      have fp : F p = none := r.fh.free hp
      have ff : Same F F' := fun a o e => by
        show (if a = p ∨ a ∈ ts then H' a else F a) = some o
        split
        · exact hh _ _ (r.fh _ _ e)
        · exact e
      have fh : Same F' H' := fun a o e => by
        have e : (if a = p ∨ a ∈ ts then H' a else F a) = some o := e
        split at e
        · exact e
        · exact hh _ _ (r.fh _ _ e)
      have g : Gr F H F' H' := ⟨hh, ff, fh, fun a o e => by
        have e : (if a = p ∨ a ∈ ts then H' a else F a) = some o := e
        split at e
        · rename_i c
          rcases c with c | c
          · exact .inr (by rw [c]; exact hp)
          · exact .inr (ht a c)
        · exact .inl e⟩
      refine k (.ref p) H' F' (r.grow g) ff (.lst (by show (if p = p ∨ p ∈ ts then H' p else F p) = _; rw [if_pos (.inl rfl)]; exact hl) ?_)
      exact items_dt pr (fun t ht => by show (if t = p ∨ t ∈ ts then H' t else F t) = _; rw [if_pos (.inr ht)]) (q3.same ff) q4
/-! ### x[k] = e, k and e with state -/
noncomputable def sPutDM (i : Nat) (m n : Env → MO D) : Env → Out := fun ρ => mAt m ρ fun d ρ1 => needD i (fun ρ' => mAt n ρ' fun n ρ2 => chgD ρ2 i fun ds => if (dKeyOk n && fit ds.length) = true then some (dPut ds n d) else none) ρ1
theorem fs_putDM {x : Str} {e ik : Expr} {m mk : Env → MO D} {p1 p2 pos : Pos} (i : Nat) (hu : X.A.units + 1 < cLine) (he : ME K xm X e m) (hk : ME K xm X ik mk) (hN : X.N[i]? = some x := by rfl) (hv : Vis X.env.scope x := by first | exact Or.inl rfl | exact Or.inr (Or.inl rfl) | exact Or.inr (Or.inr rfl)) (hd : (x == ("__debug__" : Str)) = false := by decide)
    (hcd : (x == ("__classdict__" : Str)) = false := by decide) (hs : swapsWith e (some (.Subscript (.Name x p1) ik p2)) pos.line X.env = pure false := by rfl) : FS K xm X (.Assign [.Subscript (.Name x p1) ik p2] e pos) (sPutDM i m mk) :=
  PS.to (ps_dput hu (pv i hN hv hd hcd) hk he hs) fun Dn σ H ⟨B, ρ, F, r, k⟩ => ⟨B, ρ, F, r, pm_at (R := RD K) r k fun d ρ1 v H' F' r' dv _ k' => by
    obtain ⟨⟨t, ds, hi⟩, k'⟩ := k'.needDE
    obtain ⟨p, kvs, q1, q2, q3, q4⟩ := r'.ownDAt hi
    refine ⟨.ref p, q1, B, ρ1, F', r', pm_at (R := RD K) r' k' fun n ρ2 w H2 F2 r2 dw f2 k2 => ?_⟩
    obtain ⟨t', ds', es, h1, h3, k3⟩ := k2.chgDE
    obtain ⟨p', kvs', w1, w2, w3, w4⟩ := r2.ownDAt h1
    rw [q1] at w1
    cases w1
    by_cases c : (dKeyOk n && fit ds'.length) = true
    · rw [if_pos c] at h3
      cases h3
      rw [Bool.and_eq_true] at c
      obtain ⟨key, rfl, rfl⟩ := keyE dw c.1
      have lk : kvs'.length = ds'.length := by
        have := congrArg List.length w4
        rw [List.length_map, List.length_map] at this
        exact this.symm
      obtain ⟨z1, z2⟩ := put_of (k := key) (dv.same f2) w3 w4
      exact ⟨p, _, rfl, .k w2 (by rw [lk]; exact fit_line c.2), k3 _ _ _ (r2.write h1 q1 ⟨_, upd_same, z1, z2⟩)⟩
    · rw [if_neg c] at h3
      cases h3⟩
def sPutLN (i : Nat) (m n : Env → MO D) : Env → Out := fun ρ => mAt m ρ fun d ρ1 => need i (fun ρ' => mAt n ρ' fun n ρ2 => match n with
  | .int n => chg ρ2 i fun ds => match ixN ds.length n with
    | some j => some (ds.set j d)
    | none => none
  | _ => .bad) ρ1
theorem fs_putLN {x : Str} {e ik : Expr} {m mk : Env → MO D} {p1 p2 pos : Pos} (i : Nat) (he : ME K xm X e m) (hk : ME K xm X ik mk) (hN : X.N[i]? = some x := by rfl) (hv : Vis X.env.scope x := by first | exact Or.inl rfl | exact Or.inr (Or.inl rfl) | exact Or.inr (Or.inr rfl)) (hd : (x == ("__debug__" : Str)) = false := by decide)
    (hcd : (x == ("__classdict__" : Str)) = false := by decide) (ha : ∀ v, assign (.Subscript (.Name x p1) ik p2) X.env v = (do
      let ov ← holding [v] (eval (.Name x p1) X.env)
      let iv ← holding [v, ov] (eval ik X.env)
      standAt p2
      holding [v, ov, iv] (setItem ov iv v)
      release [v, ov, iv] []) := by intro _; rfl) (hs : swapsWithSole [.Subscript (.Name x p1) ik p2] e pos.line X.env = pure false := by rfl) (hw : swappedStores [.Subscript (.Name x p1) ik p2] e X.env = pure none := by rfl)
    (h1 : (assignEach [.Subscript (.Name x p1) ik p2] X.env).map (·.2) = [assign (.Subscript (.Name x p1) ik p2) X.env] := by rfl) : FS K xm X (.Assign [.Subscript (.Name x p1) ik p2] e pos) (sPutLN i m mk) :=
  PS.to (ps_asg he (pg_sub (pv i hN hv hd hcd) hk set_list ha) hs hw h1) fun Dn σ H ⟨B, ρ, F, r, k⟩ => ⟨B, ρ, F, r, pm_at (R := RD K) r k fun d ρ1 v H' F' r' dv _ k' => by
    obtain ⟨⟨t, ds, hi⟩, k'⟩ := k'.needE
    obtain ⟨p, xs, q1, q2, q3, q4⟩ := r'.ownAt hi
    refine ⟨.ref p, q1, B, ρ1, F', r', pm_at (R := RD K) r' k' fun n ρ2 w H2 F2 r2 dw f2 k2 => ?_⟩
    split at k2
    · rename_i n
      obtain ⟨t', ds', es, h1, h3, k3⟩ := k2.chgE
      obtain ⟨p', xs', w1, w2, w3, w4⟩ := r2.ownAt h1
      rw [q1] at w1
      cases w1
      split at h3
      · rename_i j ej
        cases h3
        rw [dw.intE]
        exact ⟨p, xs', n, j, rfl, rfl, w2, by rw [w3.length]; exact ej, k3 _ _ _ (r2.write h1 q1 ⟨_, upd_same, DtAll.set (dv.same f2) _ w3⟩)⟩
      · cases h3
    · exact k2.elim⟩
end
end Du

namespace Du
open PySem PySem.Spec PyProof.Rows L2
section
variable {P : Program} {w : World} {K : PySem.W.Frag} {mg : Str → Option Value} {base : Heap}
/-- the law itself, at the function that the top holds -/
theorem okL {x y : Str} {st : Stmt} {N ps : List Str} {k : Nat} {g : Env → Out} {f : Addr} {fd : FuncData} (F : L2.Fun K x y st f fd) (S : FnScope N ps (defScope st))
    (body : ∀ (f : Addr) (cdv : Value) (A : Around) (outer : List PySem.Env) (s : Shared) (H : Hp) (E : XK), Room k (A.deeper (envOfC y (defScope st) s.heap.objs.size f cdv)) → FSs K none (cxOf CX0 P w K mg base N y (defScope st) f cdv A outer s H E).nox (defBody st) g)
    (hN : ps.length ≤ N.length := by decide) : FnOk P w K mg base CX0 (k + 1) f fd ps (sp0 K (runD ps.length N.length g)) :=
  F.ok S (fun vs H Q E h => sp0_len (f := runD ps.length N.length g) h) fun cdv A outer s H vs Q E hr h => ⟨_, body f cdv A outer s H E hr, by
    obtain ⟨ds, G, sG, hd, d, e, q⟩ := h
    unfold runD at e
    by_cases hn : ds.length = ps.length
    · rw [if_pos hn] at e
      refine ⟨⟨H, G, 0⟩, _, G, Rl.start sG hd hn hN, ?_⟩
      unfold outR at e
      cases e2 : g (ent N.length ps.length ds) with
      | nx ρ =>
        rw [e2] at e
        cases e
        intro σ' H' F' r
        obtain ⟨G', g1, d1⟩ := r.done sG
        exact q _ _ _ g1 .non
      | rt d' ρ =>
        rw [e2] at e
        cases e
        intro v σ' H' F' r dv
        obtain ⟨G', g1, d1⟩ := r.done sG
        exact q _ _ _ g1 (dv.same d1)
      | ro d' ρ =>
        rw [e2] at e
        cases e
        intro p σ' H' F' r fp bp ow
        obtain ⟨G', g1, d1⟩ := r.freeze sG fp bp ow
        exact q _ _ _ g1 d1
      | bk ρ => rw [e2] at e; cases e
      | ct ρ => rw [e2] at e; cases e
      | ex x ρ => rw [e2] at e; cases e
      | bad => rw [e2] at e; cases e
    · rw [if_neg hn] at e
      cases e⟩
end
end Du

namespace Du
open PySem PySem.Spec PyProof.Rows L2
section
variable {K : PySem.W.Frag} {X : Cx} {xm : XMo}
/-! ### dicts whose keys are tuples of texts and whole numbers -/
def tKeyOk : D → Bool
  | .tup ds => ds.all dKeyOk
  | _ => false
theorem keysE1 {F : Hp} : ∀ {ds : List D} {xs : List V}, DtAll K F xs ds → ds.all dKeyOk = true → ∃ ks : List Key, xs = ks.map kV ∧ ds = ks.map keyD
  | [], xs, h, _ => by
    cases h
    exact ⟨[], rfl, rfl⟩
  | d :: ds, xs, h, o => by
    cases h with
    | cons a b =>
      rw [List.all_cons, Bool.and_eq_true] at o
      obtain ⟨k, rfl, rfl⟩ := keyE a o.1
      obtain ⟨ks, rfl, rfl⟩ := keysE1 b o.2
      exact ⟨k :: ks, rfl, rfl⟩
theorem keysE {F : Hp} {v : V} {d : D} (h : Dt K F v d) (o : tKeyOk d = true) : ∃ (b : Addr) (ks : List Key), v = .ref b ∧ F b = some (.tup (ks.map kV)) ∧ d = keysD ks := by
  cases d with
  | tup ds =>
    obtain ⟨a, xs, rfl, h1, h2⟩ := h.tupS
    obtain ⟨ks, rfl, rfl⟩ := keysE1 h2 o
    exact ⟨a, ks, rfl, h1, rfl⟩
  | _ => cases o
theorem keysD_inj' {a b : List Key} (h : keysD a = keysD b) : a = b := keysD_inj (D.tup.inj h)
theorem dGetT_of {F : Hp} : ∀ {kvs : List (List Key × V)} {ds : List (D × D)} {k : List Key}, DtAll K F (kvs.map (·.2)) (ds.map (·.2)) → ds.map (·.1) = kvs.map (fun p => keysD p.1) →
    (∀ d, dGet ds (keysD k) = some d → ∃ v, valV kvs k = some v ∧ Dt K F v d) ∧ (dGet ds (keysD k)).isSome = (valV kvs k).isSome
  | [], [], _, _, _ => ⟨(fun _ e => nomatch e), rfl⟩
  | [], _ :: _, _, _, e => by simp at e
  | _ :: _, [], _, _, e => by simp at e
  | p :: kvs, q :: ds, k, h, e => by
    simp only [List.map_cons] at h e
    cases h with
    | cons h1 h2 =>
      injection e with e1 e2
      obtain ⟨i1, i2⟩ := dGetT_of (k := k) h2 e2
      by_cases c : p.1 = k
      · have c' : q.1 = keysD k := by rw [e1, c]
        rw [valV_pos c]
        have g : dGet (q :: ds) (keysD k) = some q.2 := by simp [dGet, List.find?_cons, c']
        rw [g]
        exact ⟨fun d e => by cases e; exact ⟨_, rfl, h1⟩, rfl⟩
      · have c' : ¬ q.1 = keysD k := fun z => c (keysD_inj' (by rw [← e1, z]))
        rw [valV_neg c]
        have g : dGet (q :: ds) (keysD k) = dGet ds (keysD k) := by simp [dGet, List.find?_cons, c']
        rw [g]
        exact ⟨i1, i2⟩
theorem getDT_of {F : Hp} {kvs : List (List Key × V)} {ds : List (D × D)} {k : List Key} {v : V} {d : D} (hv : Dt K F v d) (h : DtAll K F (kvs.map (·.2)) (ds.map (·.2))) (e : ds.map (·.1) = kvs.map (fun p => keysD p.1)) : Dt K F ((valV kvs k).getD v) ((dGet ds (keysD k)).getD d) := by
  obtain ⟨h1, h2⟩ := dGetT_of (k := k) h e
  cases e2 : dGet ds (keysD k) with
  | some d' =>
    obtain ⟨w, q1, q2⟩ := h1 d' e2
    rw [q1]
    exact q2
  | none =>
    rw [e2] at h2
    have : valV kvs k = none := by
      cases q : valV kvs k with
      | none => rfl
      | some w => rw [q] at h2; cases h2
    rw [this]
    exact hv
/-! {} -/
def eDct0T : VEnv → Res D := fun _ => .ok (.dct true [])
theorem fe_dct0T {pos : Pos} : FE K xm X (.Dict [] [] pos) eDct0T := PE.to pe_dnewT fun σ H Q ⟨F, ρ, sF, vw, k⟩ p hp => k.new sF hp (.dt upd_same .nil rfl)
theorem fw_dct0T {pos : Pos} : FW' K xm X (.Dict [] [] pos) eDct0T := PE.to pe_dnewT fun σ H Q ⟨F, ρ, sF, vw, k⟩ p hp => PoW.new k sF hp ⟨[], upd_same, .nil, rfl⟩
/-! d.get(k, e) -/
noncomputable def eGet2T (fo fk fd : VEnv → Res D) : VEnv → Res D := fun ρ => (fo ρ).bind fun a => match a with
  | .dct true kvs => (fk ρ).bind fun n => (fd ρ).bind fun e => if tKeyOk n = true then .ok ((dGet kvs n).getD e) else .bad
  | _ => .bad
theorem fe_get2T {o e f : Expr} {apos cpos : Pos} {fo fk fd : VEnv → Res D} (hu : X.A.units + 1 < cLine) (ho : FE K xm X o fo) (he : FE K xm X e fk) (hf : FE K xm X f fd) (m : M2 X o "get" apos e f cpos := by exact ⟨rfl, rfl, rfl, rfl⟩) : FE K xm X (.Call (.Attribute o "get" apos) [e, f] [] cpos) (eGet2T fo fk fd) :=
  PE.to (pe_dget2 hu ho he hf m) fun σ H Q ⟨F, ρ, sF, vw, k⟩ => ⟨F, ρ, sF, vw, Po.seq k fun a x F1 H1 g1 d1 k1 => by
    split at k1
    · cases d1 with
      | dt h1 h2 h3 =>
        refine ⟨_, rfl, .inr ⟨_, .inl (g1.fh _ _ h1)⟩, F1, ρ, g1.fh, vw.same g1.ff, Po.seq k1 fun n y F2 H2 g2 d2 k2 => ⟨F2, ρ, g2.fh, vw.same (g1.ff.trans g2.ff), Po.seq k2 fun e z F3 H3 g3 d3 k3 => ?_⟩⟩
        obtain ⟨ok, k3⟩ := Po.ite k3
        obtain ⟨b, key, rfl, hb, rfl⟩ := keysE d2 ok
        exact ⟨_, .inr ⟨_, key, b, .inl (g3.fh _ _ (g3.ff _ _ (g2.ff _ _ h1))), rfl, g3.fh _ _ (g3.ff _ _ hb), rfl⟩, k3.done g3.fh (getDT_of d3 (h2.same (g2.ff.trans g3.ff)) h3)⟩
    · exact k1.elim⟩
/-! d[k] = e, d an own one -/
def ownT (ρ : Env) (i : Nat) : Option (Bool × List (D × D)) := match ρ[i]? with
  | some (some (.own t (.dct true ds))) => some (t, ds)
  | _ => none
theorem ownT_of {ρ : Env} {i : Nat} {t : Bool} {ds : List (D × D)} (h : ownT ρ i = some (t, ds)) : ρ[i]? = some (some (.own t (.dct true ds))) := by
  unfold ownT at h
  split at h
  · rename_i e
    cases h
    exact e
  · cases h
def needT (i : Nat) (g : Env → Out) : Env → Out := fun ρ => match ownT ρ i with
  | some _ => g ρ
  | none => .bad
variable {B : Bs} {Dn : Ends} {ρ : Env} {σ : St} {H F : Hp}
theorem So.needTE {i : Nat} {g : Env → Out} (k : So K xm B Dn (needT i g ρ)) : (∃ t ds, ρ[i]? = some (some (.own t (.dct true ds)))) ∧ So K xm B Dn (g ρ) := by
  unfold needT at k
  cases e : ownT ρ i with
  | none => rw [e] at k; exact k.elim
  | some td => rw [e] at k; exact ⟨⟨td.1, td.2, ownT_of e⟩, k⟩
def chgT' (ρ : Env) (i : Nat) (f : List (D × D) → Option (List (D × D))) : Out := match ownT ρ i with
  | some (t, ds) => match f ds with
    | some es => .nx (ρ.set i (some (.own t (.dct true es))))
    | none => .bad
  | none => .bad
theorem So.chgTE {i : Nat} {f : List (D × D) → Option (List (D × D))} (k : So K xm B Dn (chgT' ρ i f)) : ∃ t ds es, ρ[i]? = some (some (.own t (.dct true ds))) ∧ f ds = some es ∧ So K xm B Dn (.nx (ρ.set i (some (.own t (.dct true es))))) := by
  unfold chgT' at k
  cases e : ownT ρ i with
  | none => rw [e] at k; exact k.elim
  | some td =>
    obtain ⟨t, ds⟩ := td
    rw [e] at k
    dsimp only at k
    cases e2 : f ds with
    | none => rw [e2] at k; exact k.elim
    | some es => rw [e2] at k; exact ⟨t, ds, es, ownT_of e, e2, k⟩
theorem Rl.ownTAt (r : Rl K B σ H ρ F) {i : Nat} {t : Bool} {ds : List (D × D)} (h : ρ[i]? = some (some (.own t (.dct true ds)))) : ∃ p kvs, σ[i]? = some (some (.ref p)) ∧ H p = some (.dT kvs) ∧ DtAll K F (kvs.map (·.2)) (ds.map (·.2)) ∧ ds.map (·.1) = kvs.map (fun p => keysD p.1) := by
  obtain ⟨p, q1, q2, q3, kvs, q4, q5, q6⟩ := r.ow i _ _ h
  exact ⟨p, kvs, q1, q4, q5, q6⟩
theorem replT_of {F : Hp} {k : List Key} {v : V} {d : D} (hd : Dt K F v d) : ∀ {kvs : List (List Key × V)} {ds : List (D × D)}, DtAll K F (kvs.map (·.2)) (ds.map (·.2)) → ds.map (·.1) = kvs.map (fun p => keysD p.1) →
    DtAll K F ((kvs.map fun kv => if kv.1 = k then (kv.1, v) else kv).map (·.2)) ((ds.map fun p => if p.1 = keysD k then (p.1, d) else p).map (·.2)) ∧ (ds.map fun p => if p.1 = keysD k then (p.1, d) else p).map (·.1) = (kvs.map fun kv => if kv.1 = k then (kv.1, v) else kv).map (fun p => keysD p.1)
  | [], [], _, _ => ⟨.nil, rfl⟩
  | [], _ :: _, _, e => by simp at e
  | _ :: _, [], _, e => by simp at e
  | p :: kvs, q :: ds, h, e => by
    simp only [List.map_cons] at h e
    cases h with
    | cons h1 h2 =>
      injection e with e1 e2
      obtain ⟨i1, i2⟩ := replT_of hd h2 e2
      simp only [List.map_cons]
      by_cases c : p.1 = k
      · have c' : q.1 = keysD k := by rw [e1, c]
        rw [if_pos c, if_pos c']
        exact ⟨.cons hd i1, by rw [i2, e1]⟩
      · have c' : ¬ q.1 = keysD k := fun z => c (keysD_inj' (by rw [← e1, z]))
        rw [if_neg c, if_neg c']
        exact ⟨.cons h1 i1, by rw [i2, e1]⟩
theorem putT_of {F : Hp} {k : List Key} {v : V} {d : D} {kvs : List (List Key × V)} {ds : List (D × D)} (hd : Dt K F v d) (h : DtAll K F (kvs.map (·.2)) (ds.map (·.2))) (e : ds.map (·.1) = kvs.map (fun p => keysD p.1)) :
    DtAll K F ((putK kvs k v).map (·.2)) ((dPut ds (keysD k) d).map (·.2)) ∧ (dPut ds (keysD k) d).map (·.1) = (putK kvs k v).map (fun p => keysD p.1) := by
  have g := (dGetT_of (k := k) h e).2
  unfold dPut putK
  have v2 := valV_any k kvs
  by_cases c : (dGet ds (keysD k)).isSome = true
  · rw [if_pos c]
    rw [g, ← v2] at c
    rw [if_pos c]
    exact replT_of hd h e
  · rw [if_neg c]
    rw [g, ← v2] at c
    rw [if_neg c, List.map_append, List.map_append, List.map_append, List.map_append, e]
    exact ⟨h.app (.cons hd .nil), rfl⟩
noncomputable def sPutT (i : Nat) (L : List Nat) (fv fk : VEnv → Res D) : Env → Out := fun ρ => eAt L fv ρ fun d => needT i (fun ρ' => eAt [] fk ρ' fun n => chgT' ρ' i fun ds => if (tKeyOk n && fit ds.length) = true then some (dPut ds n d) else none) (aft L d ρ)
theorem fs_putT {x : Str} {e ik : Expr} {L : List Nat} {fv fk : VEnv → Res D} {p1 p2 pos : Pos} (i : Nat) (hu : X.A.units + 1 < cLine) (he : FE K xm X e fv) (hk : FE K xm X ik fk) (hN : X.N[i]? = some x := by rfl) (hv : Vis X.env.scope x := by first | exact Or.inl rfl | exact Or.inr (Or.inl rfl) | exact Or.inr (Or.inr rfl)) (hd : (x == ("__debug__" : Str)) = false := by decide)
    (hcd : (x == ("__classdict__" : Str)) = false := by decide) (hs : swapsWith e (some (.Subscript (.Name x p1) ik p2)) pos.line X.env = pure false := by rfl) : FS K xm X (.Assign [.Subscript (.Name x p1) ik p2] e pos) (sPutT i L fv fk) :=
  PS.to (ps_dput hu (pv i hN hv hd hcd) hk he hs) fun Dn σ H ⟨B, ρ, F, r, k⟩ => tF.at r k fun d v H' F' _ r' dv _ _ k' => by
    obtain ⟨⟨t, ds, hi⟩, k'⟩ := k'.needTE
    obtain ⟨p, kvs, q1, q2, q3, q4⟩ := r'.ownTAt hi
    refine ⟨.ref p, q1, tF.at r' k' fun n w H2 F2 _ r2 dw f2 h2 k2 => ?_⟩
    rw [aft_nil] at r2
    obtain ⟨t', ds', es, h1, h3, k3⟩ := k2.chgTE
    obtain ⟨p', kvs', w1, w2, w3, w4⟩ := r2.ownTAt h1
    rw [q1] at w1
    cases w1
    by_cases c : (tKeyOk n && fit ds'.length) = true
    · rw [if_pos c] at h3
      cases h3
      rw [Bool.and_eq_true] at c
      obtain ⟨b, key, rfl, hb, rfl⟩ := keysE dw c.1
      have lk : kvs'.length = ds'.length := by
        have := congrArg List.length w4
        rw [List.length_map, List.length_map] at this
        exact this.symm
      obtain ⟨z1, z2⟩ := putT_of (k := key) (dv.same f2) w3 w4
      exact ⟨p, _, rfl, .t w2 (r2.fh _ _ hb) (by rw [lk]; exact fit_line c.2), k3 _ _ _ (r2.write h1 q1 ⟨_, upd_same, z1, z2⟩)⟩
    · rw [if_neg c] at h3
      cases h3
/-! len(d) -/
def dLenT : List D → Res D
  | [.dct true ds] => .ok (.int ds.length)
  | _ => .bad
theorem cd_lenT : CallD K rLenT dLenT := by
  intro xm σ F H xs ds Q s hd k
  unfold dLenT at k
  split at k
  · obtain ⟨v, rfl, h⟩ := hd.one
    cases h with
    | dt h1 h2 h3 =>
      have lk := congrArg List.length h3
      rw [List.length_map, List.length_map] at lk
      refine ⟨_, _, rfl, s _ _ h1, ?_⟩
      rw [← lk]
      exact k.done s (.int _)
  · exact k.elim
/-! ### l.count(x), things told all the way -/
def rCountD (K : PySem.W.Frag) : V → List V → Hp → VK → Prop := fun x xs H Q => ∃ (a : Addr) (y : V) (d : PyData) (ds : List PyData), x = V.ref a ∧ xs = [y] ∧ Dp K H (V.ref a) (.list ds) ∧ Dp K H y d ∧
  SeqAt.shaped (.list ds) = true ∧ SeqAt.shaped d = true ∧ Q (.int (ds.countP fun z => PyData.eqv z d : Nat)) H
theorem mt_countD (hu : X.A.units + 65 < cLine) : MtR X "list.count" (rCountD X.K) := by
  intro pins s σ H x xs v us Q I rx rxs h
  obtain ⟨a, y, d, ds, rfl, rfl, hl, hy, sl, sd, q⟩ := h
  cases rx
  cases rxs with
  | cons ry rt =>
    rename_i uy ut
    cases rt
    obtain ⟨bs, r1⟩ := Dp.reads I d y uy hy ry
    have hxs : PyData.canLayAll0 ds = true := SeqAt.canLay_of_shaped sl
    have hroom : X.A.units + 1 + min (PyData.depthAll ds) d.depth < cLine := room_in_shaped sd hu
    cases hl with
    | lst hs ha =>
      obtain ⟨its, rv, ⟨⟨cls, dd, data, sls⟩, n, ho, hc, hdn, hdt⟩, hlen⟩ := I.list hs
      simp only at hc hdt
      subst hc hdt
      obtain ⟨as, h4⟩ := Dp.readsAll I ds _ its ha rv
      have hmap : its.map (SeqAt.readOf s.heap) = ds := SeqAt.readsAll_map ds its as hxs h4
      refine call_meets PySem.F.slot_list_count ⟨_, ho, rfl⟩ PySem.F.entry_list_count (PySem.F.args_list_count_2 _ _)
        (SeqAt.list_countAt a its.toArray n dd sls uy (fun u => PyData.eqv (SeqAt.readOf s.heap u) d)) ⟨ho, SeqAt.items_eqAt (vs := its.toArray) (show ReadsAll s.heap its.toArray.toList ds as from h4) r1 hxs (SeqAt.canLay_of_shaped sd) hroom, ?_⟩
      have e : its.toArray.toList.countP (fun u => PyData.eqv (SeqAt.readOf s.heap u) d) = ds.countP fun z => PyData.eqv z d := by
        rw [← hmap, List.countP_map]
        rfl
      rw [e]
      exact ⟨.int _, H, I.tok _, ⟨_, rfl⟩, q⟩
theorem count_of {d : D} (o : okD d = true) : ∀ {ds : List D}, okAll ds = true → (pyAll ds).countP (fun z => PyData.eqv z (py d)) = ds.countP fun e => pyEq e d
  | [], _ => rfl
  | e :: ds, h => by
    simp only [okAll, Bool.and_eq_true] at h
    show (py e :: pyAll ds).countP _ = _
    rw [List.countP_cons, List.countP_cons, count_of o h.2, eqv_py h.1 o]
def dCount : D → List D → Res D
  | .lst es, [d] => if (lay d && lay (.lst es)) = true then .ok (.int (es.countP fun e => pyEq e d : Nat)) else .bad
  | _, _ => .bad
theorem md_count : MtD K "list" (rCountD K) isLst dCount := ⟨fun F H x a s h t => ty_lst s h t, by
  intro xm σ F H x a xs ds Q s h t hd k
  unfold dCount at k
  split at k
  · rename_i es d
    obtain ⟨f, k⟩ := Po.ite k
    obtain ⟨v, rfl, q⟩ := hd.one
    rw [Bool.and_eq_true] at f
    have d1 := Dp.mono s (Dt.dp (lay_ok f.1) q)
    have d2 := Dp.mono s (Dt.dp (lay_ok f.2) h)
    have ok2 : okAll es = true := lay_ok f.2
    obtain ⟨p, ys, rfl, h1, h2⟩ := h.lstE
    refine ⟨p, v, _, _, rfl, rfl, d2, d1, lay_shaped f.2, lay_shaped f.1, ?_⟩
    rw [count_of (lay_ok f.1) ok2]
    exact k.done s (.int _)
  · exact k.elim⟩
end
end Du

namespace Du
open PySem PySem.Spec PyProof.Rows L2
section
variable {K : PySem.W.Frag} {X : Cx} {B : Bs} {Dn : Ends} {ρ : Env} {σ : St} {H F : Hp}
/-! ### for x in l, l an own list that stays own -/
def unS : Option Slot → Option Slot
  | some (.own _ d) => some (.own false d)
  | s => s
def unp (ρ : Env) : Env := ρ.map unS
def unO : Out → Out
  | .nx ρ => .nx (unp ρ)
  | .bk ρ => .bk (unp ρ)
  | .ct ρ => .ct (unp ρ)
  | .rt d ρ => .rt d (unp ρ)
  | .ro d ρ => .ro d (unp ρ)
  | .ex x ρ => .ex x (unp ρ)
  | .bad => .bad
def noT : Env → Bool
  | [] => true
  | some (.own true _) :: _ => false
  | _ :: r => noT r
def ownAt (ρ : Env) (i : Nat) : Option (List D) := match ρ[i]? with
  | some (some (.own true (.lst ds))) => some ds
  | _ => none
theorem ownAt_of {i : Nat} {ds : List D} (h : ownAt ρ i = some ds) : ρ[i]? = some (some (.own true (.lst ds))) := by
  unfold ownAt at h
  split at h
  · rename_i e
    cases h
    exact e
  · cases h
open Classical in
noncomputable def forO (i : Nat) (ds0 : List D) (tg : Tgt) (g : Env → Out) (l : List Nat) : List D → Env → Out
  | [], ρ => if ownAt ρ i = some ds0 then .nx ρ else .bad
  | d :: ds, ρ => if ownAt ρ i = some ds0 then (match tg d with
    | .ok as => loopO (fun ρ' => forO i ds0 tg g l ds (clr l ρ')) (g (setS ρ as))
    | _ => .bad) else .bad
noncomputable def sForO (i : Nat) (tg : Tgt) (g : Env → Out) (l : List Nat) : Env → Out := fun ρ => match ρ[i]? with
  | some (some (.own false (.lst ds))) => if noT ρ = true then unO (forO i ds tg g l ds (ρ.set i (some (.own true (.lst ds))))) else .bad
  | _ => .bad
theorem unp_get (ρ : Env) (i : Nat) : (unp ρ)[i]? = (ρ[i]?).map unS := by
  unfold unp
  rw [List.getElem?_map]
theorem Rl.unp {p : Addr} (r : Rl K ⟨B.b, B.g, p⟩ σ H ρ F) : Rl K B σ H (Du.unp ρ) F := by
  refine ⟨r.fh, r.bh, r.zf, by rw [r.len]; unfold Du.unp; rw [List.length_map], fun i d e => ?_, fun i t d e => ?_, fun i j t u d e p h1 h2 h3 h4 => ?_, fun i d p h1 h2 => ?_⟩
  · rw [unp_get] at e
    obtain ⟨s, h1, h2⟩ := Option.map_eq_some_iff.mp e
    cases s with
    | none => cases h2
    | some s =>
      cases s with
      | frz d' => cases h2; exact r.fz i _ h1
      | own t d' => cases h2
  · rw [unp_get] at e
    obtain ⟨s, h1, h2⟩ := Option.map_eq_some_iff.mp e
    cases s with
    | none => cases h2
    | some s =>
      cases s with
      | frz d' => cases h2
      | own t' d' => cases h2; exact r.ow i _ _ h1
  · rw [unp_get] at h1 h2
    obtain ⟨s, a1, a2⟩ := Option.map_eq_some_iff.mp h1
    obtain ⟨s', b1, b2⟩ := Option.map_eq_some_iff.mp h2
    cases s with
    | none => cases a2
    | some s =>
      cases s with
      | frz d' => cases a2
      | own t' d' =>
        cases s' with
        | none => cases b2
        | some s' =>
          cases s' with
          | frz d' => cases b2
          | own t'' d'' => exact r.dj i j _ _ _ _ p a1 b1 h3 h4
  · rw [unp_get] at h1
    obtain ⟨s, a1, a2⟩ := Option.map_eq_some_iff.mp h1
    cases s with
    | none => cases a2
    | some s =>
      cases s with
      | frz d' => cases a2
      | own t' d' => cases a2
theorem So.unp {p : Addr} : ∀ {o : Out}, So K none B Dn (unO o) → So K none ⟨B.b, B.g, p⟩ Dn o
  | .nx ρ, k => fun σ H F r => k σ H F r.unp
  | .bk ρ, k => fun σ H F r => k σ H F r.unp
  | .ct ρ, k => fun σ H F r => k σ H F r.unp
  | .rt d ρ, k => fun v σ H F r => k v σ H F r.unp
  | .ro d ρ, k => fun q σ H F r => k q σ H F r.unp
  | .ex x ρ, k => k
  | .bad, k => k
theorem noT_at : ∀ {ρ : Env} {j : Nat} {d : D}, noT ρ = true → ρ[j]? = some (some (.own true d)) → False
  | [], _, _, _, e => by simp at e
  | none :: r, 0, _, _, e => by simp at e
  | some (.frz _) :: r, 0, _, _, e => by simp at e
  | some (.own false _) :: r, 0, _, _, e => by simp at e
  | some (.own true _) :: r, _, _, h, _ => by cases h
  | none :: r, j + 1, _, h, e => noT_at (ρ := r) (j := j) h (by simpa using e)
  | some (.frz _) :: r, j + 1, _, h, e => noT_at (ρ := r) (j := j) h (by simpa using e)
  | some (.own false _) :: r, j + 1, _, h, e => noT_at (ρ := r) (j := j) h (by simpa using e)
theorem Rl.pinned {i : Nat} {d : D} {p : Addr} (r : Rl K B σ H ρ F) (hn : noT ρ = true) (hi : ρ[i]? = some (some (.own false d))) (hp : σ[i]? = some (some (.ref p))) : Rl K ⟨B.b, B.g, p⟩ σ H (ρ.set i (some (.own true d))) F := by
  have li : i < ρ.length := (List.getElem?_eq_some_iff.mp hi).1
  have back : ∀ {j : Nat} {t : Bool} {e : D}, (ρ.set i (some (.own true d)))[j]? = some (some (.own t e)) → ∃ t', ρ[j]? = some (some (.own t' e)) := by
    intro j t e h
    by_cases z : i = j
    · subst z
      rw [List.getElem?_set_self li] at h
      cases h
      exact ⟨_, hi⟩
    · rw [List.getElem?_set_ne z] at h
      exact ⟨_, h⟩
  refine ⟨r.fh, r.bh, r.zf, by rw [List.length_set]; exact r.len, fun j e h => ?_, fun j t e h => ?_, fun j j' t u e e' q h1 h2 h3 h4 => ?_, fun j e q h1 h2 => ?_⟩
  · by_cases z : i = j
    · subst z
      rw [List.getElem?_set_self li] at h
      cases h
    · rw [List.getElem?_set_ne z] at h
      exact r.fz j e h
  · obtain ⟨t', h'⟩ := back h
    exact r.ow j t' e h'
  · obtain ⟨t', h1'⟩ := back h1
    obtain ⟨u', h2'⟩ := back h2
    exact r.dj j j' _ _ _ _ q h1' h2' h3 h4
  · by_cases z : i = j
    · subst z
      rw [hp] at h2
      cases h2
      rfl
    · rw [List.getElem?_set_ne z] at h1
      exact (noT_at hn h1).elim
theorem for_loopO {i : Nat} {ds0 : List D} {gt : Tgt} {g : Env → Out} {l : List Nat} {tb : TS} {p : Addr} (hpin : B.pin = p) (ht : tb = sF K none g) (r : Rl K B σ H ρ F) (k : So K none B Dn (forO i ds0 gt g l ds0 ρ)) :
    ∃ W : Nat → Nat → St → Hp → Prop, (∃ m, W 0 m σ H) ∧ ∀ j m σ H, W j m σ H →
      ((Itl K p).stop j H ∧ Dn.nx σ H) ∨ ((Itl K p).go j H ∧ ∃ N : St → Hp → Prop, (∀ σ' H', N σ' H' → ∃ m', m' < m ∧ W (j + 1) m' σ' H') ∧ ∀ x H', (Itl K p).yld j H x H' → gF K gt x σ H' fun σ2 H2 => tb { Dn with nx := N, ct := N, bk := Dn.nx } σ2 H2) := by
  subst ht
  let St' : Nat → St → Hp → Prop := fun j σ2 H2 => ∃ ρ2 F2, Rl K B σ2 H2 ρ2 F2 ∧ So K none B Dn (forO i ds0 gt g l (ds0.drop j) ρ2)
  refine ⟨fun j m σ2 H2 => m = ds0.length - j ∧ j ≤ ds0.length ∧ St' j σ2 H2, ⟨ds0.length, by simp, Nat.zero_le _, ρ, F, r, k⟩, ?_⟩
  rintro j m σ2 H2 ⟨rfl, hj, ρ2, F2, r2, k2⟩
  have own : ownAt ρ2 i = some ds0 := by
    apply Classical.byContradiction
    intro n
    cases e : ds0.drop j with
    | nil => rw [e] at k2; unfold forO at k2; rw [if_neg n] at k2; exact k2.elim
    | cons d ds => rw [e] at k2; unfold forO at k2; rw [if_neg n] at k2; exact k2.elim
  have hi := ownAt_of own
  obtain ⟨q, q1, q2, q3, xs, q4, q5⟩ := r2.ow i _ _ hi
  have pq := r2.pn i _ _ hi q1
  rw [hpin] at pq
  subst pq
  have l5 := q5.length
  by_cases hlt : j < ds0.length
  · refine .inr ⟨⟨xs, xs[j], SqL.of q4, by rw [List.getElem?_eq_getElem (by omega)]⟩, St' (j + 1), fun σ' H' p' => ⟨ds0.length - (j + 1), by omega, rfl, hlt, p'⟩, fun x H3 yx => ?_⟩
    obtain ⟨rfl, yx⟩ := yx
    obtain ⟨v, e1, dx⟩ := q5.at (List.getElem?_eq_getElem hlt)
    have := yx xs (SqL.of q4)
    rw [e1] at this
    cases this
    rw [List.drop_eq_getElem_cons hlt] at k2
    unfold forO at k2
    rw [if_pos own] at k2
    cases e1 : gt ds0[j] with
    | exc x => rw [e1] at k2; exact k2.elim
    | bad => rw [e1] at k2; exact k2.elim
    | ok as =>
      rw [e1] at k2
      have k2 : So K none B Dn (loopO (fun ρ' => forO i ds0 gt g l (ds0.drop (j + 1)) (clr l ρ')) (g (setS ρ2 as))) := k2
      refine ⟨F2, ds0[j], as, r2.fh, dx, e1, fun bs hb => ⟨B, setS ρ2 as, F2, r2.setAll hb, ?_⟩⟩
      cases e2 : g (setS ρ2 as) with
      | nx ρ' => rw [e2] at k2; exact fun σ H F r => ⟨_, F, r.clr l, k2⟩
      | ct ρ' => rw [e2] at k2; exact fun σ H F r => ⟨_, F, r.clr l, k2⟩
      | bk ρ' => rw [e2] at k2; exact fun σ H F r => k2 σ H F r
      | rt d ρ' => rw [e2] at k2; exact k2
      | ro d ρ' => rw [e2] at k2; exact k2
      | ex x ρ' => rw [e2] at k2; exact k2
      | bad => rw [e2] at k2; exact k2
  · have e : j = ds0.length := by omega
    subst e
    rw [List.drop_length] at k2
    unfold forO at k2
    rw [if_pos own] at k2
    exact .inl ⟨⟨xs, SqL.of q4, by omega⟩, k2 _ _ _ r2⟩
theorem fs_forO {tg : Expr} {x : Str} {p1 : Pos} {body : List Stmt} {gt : Tgt} {g : Env → Out} {pos : Pos} (i : Nat) (l : List Nat) (hp : PassesOwn (model X.prog X.w) X.A X.env X.xe) (hg : FG K X tg gt) (hb : FSs K none X body g)
    (hN : X.N[i]? = some x := by rfl) (hv : Vis X.env.scope x := by first | exact Or.inl rfl | exact Or.inr (Or.inl rfl) | exact Or.inr (Or.inr rfl)) (hd : (x == ("__debug__" : Str)) = false := by decide)
    (hcd : (x == ("__classdict__" : Str)) = false := by decide) (hc : X.calm = true := by rfl) (hk : X.K = K := by rfl)
    (hs : ∀ y, foldedSetIterable (.Name x p1) X.env y = pure y := by intro _; rfl) : FS K none X (.For tg (.Name x p1) body [] pos) (sForO i gt g l) := by
  subst hk
  exact PS.to (ps_for hp hc (pi_list (pv i hN hv hd hcd)) hg hb hs) fun Dn σ H ⟨B, ρ, F, r, k⟩ => by
    unfold sForO at k
    split at k
    · rename_i ds e
      by_cases hn : noT ρ = true
      · rw [if_pos hn] at k
        obtain ⟨p, q1, q2, q3, xs, q4, q5⟩ := r.ow i _ _ e
        exact ⟨.ref p, q1, p, rfl, ⟨xs, SqL.of q4⟩, for_loopO (B := ⟨B.b, B.g, p⟩) rfl rfl (r.pinned hn e q1) k.unp⟩
      · rw [if_neg hn] at k; exact k.elim
    · exact k.elim
end
end Du

namespace Dear
open PySem PySem.Spec PyProof.Rows L2
abbrev Asc (z : Str) : Prop := ∀ c ∈ z.cps.toList, c < 128
end Dear

namespace Dear
open PySem PySem.Spec PyProof.Rows L2
/-! ### zip(text, text), two texts of plain signs -/
def ascB (x : Str) : Bool := x.cps.all (· < 128)
theorem ascB_of {x : Str} (h : Asc x) : ascB x = true := by
  unfold ascB
  rw [Array.all_eq_true']
  intro c hc
  exact decide_eq_true (h c (by simpa using hc))
abbrev zsI (x : Str) (t : Tok) : Obj := { cls := .type "str_ascii_iterator", data := .fields #[.str x t, .int 0 0] }
abbrev zs1 (h : Heap) (x : Str) (t : Tok) : Heap := h.push (zsI x t)
abbrev zs2 (h : Heap) (x : Str) (t : Tok) (y : Str) (u : Tok) : Heap := (zs1 h x t).push (zsI y u)
abbrev zs3 (h : Heap) (x : Str) (t : Tok) (y : Str) (u : Tok) : Heap := (zs2 h x t y u).push { cls := .type "tuple", data := .seq #[.ref h.objs.size, .ref (zs1 h x t).objs.size] }
abbrev zs4 (h : Heap) (x : Str) (t : Tok) (y : Str) (u : Tok) : Heap := (zs3 h x t y u).push { cls := .type "tuple", data := .seq #[.none, .none] }
abbrev zs5 (h : Heap) (x : Str) (t : Tok) (y : Str) (u : Tok) : Heap := (zs4 h x t y u).push { cls := .type "zip", data := .fields #[.none, .bool false, .bool false, .ref (zs2 h x t y u).objs.size, .ref (zs3 h x t y u).objs.size] }
theorem meets_zipS (x : Str) (t : Tok) (y : Str) (u : Tok) (hx : ascB x = true) (hy : ascB y = true) :
    Meets (Builtin.«zip.__new__» ⟨[.type "zip", .str x t, .str y u], []⟩) (fun _ R s => R (.ok (.ret (.ref (zs4 s.heap x t y u).objs.size))) { s with heap := zs5 s.heap x t y u }) :=
  .of_wp fun prog w A R s h => by
    obtain ⟨hp, g, d, tk, os⟩ := s
    have hsub := sub_zip
    have hx' : x.cps.all (· < 128) = true := hx
    have hy' : y.cps.all (· < 128) = true := hy
    wp_walk using wpAny_pyIter_ascii hx', wpAny_pyIter_ascii hy'
    exact ⟨_, rfl, h⟩
section
variable {prog : Program} {w : World} {A : Around} {E : Value → Shared → Prop} {s : Shared}
theorem call_zipS {x y : Str} {t u : Tok} {Q : Value → Shared → Prop} (hx : ascB x = true) (hy : ascB y = true)
    (h : ∀ h', IsZip h' (s.heap.objs.size + 4) (s.heap.objs.size + 2) (s.heap.objs.size + 3) .none → IsTupOf2 h' (s.heap.objs.size + 2) (.ref s.heap.objs.size) (.ref (s.heap.objs.size + 1)) →
      IsTupOf2 h' (s.heap.objs.size + 3) .none .none → h'.IsStrIter s.heap.objs.size "str_ascii_iterator" x t 0 → h'.IsStrIter (s.heap.objs.size + 1) "str_ascii_iterator" y u 0 →
      (∀ c o, s.heap.get? c = some o → h'.get? c = some o) → Q (.ref (s.heap.objs.size + 4)) { s with heap := h' }) :
    wpAny (model prog w) A (call (.type "zip") [.str x t, .str y u]) Q E s := by
  refine callType_new F.called_zip (by decide) (F.typeCall_zip_2 _ _) (F.newCall_zip_2 _ _) (fun obj => F.args_object_init_3 obj _ _) F.entry_zip_new (meets_zipS x t y u hx hy) ?_
  have z1 : (zs1 s.heap x t).objs.size = s.heap.objs.size + 1 := Heap.size_push ..
  have z2 : (zs2 s.heap x t y u).objs.size = s.heap.objs.size + 2 := by rw [Heap.size_push, z1]
  have z3 : (zs3 s.heap x t y u).objs.size = s.heap.objs.size + 3 := by rw [Heap.size_push, z2]
  have z4 : (zs4 s.heap x t y u).objs.size = s.heap.objs.size + 4 := by rw [Heap.size_push, z3]
  have g5 : (zs5 s.heap x t y u).get? (zs4 s.heap x t y u).objs.size = some _ := Heap.get?_push_size _ rfl
  have g4 : (zs5 s.heap x t y u).get? (zs3 s.heap x t y u).objs.size = some _ := Heap.get?_push_of_some _ (Heap.get?_push_size _ rfl)
  have g3 : (zs5 s.heap x t y u).get? (zs2 s.heap x t y u).objs.size = some _ := Heap.get?_push_of_some _ (Heap.get?_push_of_some _ (Heap.get?_push_size _ rfl))
  have g2 : (zs5 s.heap x t y u).get? (zs1 s.heap x t).objs.size = some _ := Heap.get?_push_of_some _ (Heap.get?_push_of_some _ (Heap.get?_push_of_some _ (Heap.get?_push_size _ rfl)))
  have g1 : (zs5 s.heap x t y u).get? s.heap.objs.size = some _ := Heap.get?_push_of_some _ (Heap.get?_push_of_some _ (Heap.get?_push_of_some _ (Heap.get?_push_of_some _ (Heap.get?_push_size _ rfl))))
  show _ ∧ _
  rw [z2, z3, z4] at g5
  rw [z1, z2] at g3
  rw [z3] at g4
  rw [z1] at g2
  rw [z4]
  exact ⟨⟨_, g5, rfl⟩, h _ g5 g3 g4 ⟨_, g1, rfl, rfl⟩ ⟨_, g2, rfl, rfl⟩ fun c o q =>
    Heap.get?_push_of_some _ (Heap.get?_push_of_some _ (Heap.get?_push_of_some _ (Heap.get?_push_of_some _ (Heap.get?_push_of_some _ q))))⟩
end
/-- the signs of both, pair by pair, each pair a new tuple -/
def ItzS (x y : Str) : It :=
  ⟨fun i _ => i < x.cps.size ∧ i < y.cps.size,
    fun i H v H' => ∃ (T : Addr) (c d : Nat), v = .ref T ∧ H T = none ∧ H' = upd H T (.tup [.str ⟨#[c]⟩, .str ⟨#[d]⟩]) ∧ x.cps[i]? = some c ∧ y.cps[i]? = some d,
    fun i _ => i ≤ x.cps.size ∧ i ≤ y.cps.size ∧ (i = x.cps.size ∨ i = y.cps.size)⟩
theorem sepS (I : Addr) : ZipSep2 (I + 4) (I + 2) (I + 3) I (I + 1) [I] [I + 1] := by
  have n : ∀ {a b : Nat}, a ≠ b → (I : Nat) + a ≠ I + b := fun h e => h (Nat.add_left_cancel e)
  have m : ∀ {a : Nat}, a ≠ 0 → (I : Nat) + a ≠ I := fun h e => h (by have := Nat.add_left_cancel (n := I) (m := _) (k := 0) e; exact this)
  constructor
  · exact n (by decide)
  · exact n (by decide)
  · exact n (by decide)
  · exact m (by decide)
  · exact List.mem_singleton.mpr rfl
  · exact fun q => m (by decide) (List.mem_singleton.mp q)
  · exact fun q => m (by decide) (List.mem_singleton.mp q)
  · exact n (by decide)
  · exact List.mem_singleton.mpr rfl
  · exact fun q => n (by decide) (List.mem_singleton.mp q)
  · exact fun q => n (by decide) (List.mem_singleton.mp q)
  · exact fun q => (m (a := 1) (by decide)) (List.mem_singleton.mp q).symm
  · exact fun q => m (a := 1) (by decide) (List.mem_singleton.mp q)
theorem turn_zipS {P : Program} {w : World} {K : PySem.W.Frag} {elts : List Expr} {kk : Nat} {tpos : Pos} {z TI TO i1 i2 : Addr} {x y : Str} {t u : Tok} (D : ZipSep2 z TI TO i1 i2 [i1] [i2]) :
    Turn P w K (.Tuple elts kk tpos) (ItzS x y) [z, TI, TO, i1, i2] z (fun i h => IsZip h z TI TO .none ∧ IsTupOf2 h TI (.ref i1) (.ref i2) ∧ (∃ a b, IsTupOf2 h TO a b) ∧ h.IsStrIter i1 "str_ascii_iterator" x t i ∧ h.IsStrIter i2 "str_ascii_iterator" y u i) where
  mem := by simp
  obj := fun i h st c hc => by
    obtain ⟨hz, hTI, ⟨a, b, hTO⟩, ⟨o1, e1, _, d1⟩, ⟨o2, e2, _, d2⟩⟩ := st
    have e' : c = z ∨ c = TI ∨ c = TO ∨ c = i1 ∨ c = i2 := by simpa using hc
    rcases e' with q | q | q | q | q
    · rw [q]; exact ⟨_, hz, fun v q => nomatch q⟩
    · rw [q]; exact ⟨_, hTI, fun v q => nomatch q⟩
    · rw [q]; exact ⟨_, hTO, fun v q => nomatch q⟩
    · rw [q]; exact ⟨o1, e1, fun v q => by rw [d1] at q; cases q⟩
    · rw [q]; exact ⟨o2, e2, fun v q => by rw [d2] at q; cases q⟩
  keep := fun i h h' st k => by
    obtain ⟨hz, hTI, ⟨a, b, hTO⟩, ⟨o1, e1, r1⟩, ⟨o2, e2, r2⟩⟩ := st
    exact ⟨k z (by simp) _ hz, k TI (by simp) _ hTI, ⟨a, b, k TO (by simp) _ hTO⟩, ⟨o1, k i1 (by simp) _ e1, r1⟩, ⟨o2, k i2 (by simp) _ e2, r2⟩⟩
  item := by
    intro X hP hw hK hc i pins s σ H E I hf st hg
    subst hP hw hK
    obtain ⟨hz, hTI, ⟨a, b, hTO⟩, h1, h2⟩ := st
    have hzl : z < s.heap.objs.size := Heap.lt_size hz
    have hh : X.A.in1.handled = none := I.ok.hd hc
    refine wpAny_pyNext_zipD2_item D (Draws.strAscii hh i1 x t) (Draws.strAscii hh i2 y u) hz hTI hTO h1 h2 hg.1 hg.2 fun x1 x2 h' tk p1 p2 z' TO' h1' h2' hT hsz hk => ?_
    obtain ⟨c, uc, hcx, rfl⟩ := p1
    obtain ⟨d, ud, hdx, rfl⟩ := p2
    refine ⟨_, rfl, wpAny_letOwnedTupleGo_zip (s := { s with heap := h', toks := tk }) z' fun h'' z'' sb => ?_⟩
    have hT2 : h''.get? s.heap.objs.size = some { cls := .type "tuple", data := .seq #[.str ⟨#[c]⟩ uc, .str ⟨#[d]⟩ ud] } := (sb.2 _ (Nat.ne_of_gt hzl)).trans hT
    have new : ObjOk X.prog X.w (upd H s.heap.objs.size (.tup [.str ⟨#[c]⟩, .str ⟨#[d]⟩])) h'' s.heap.objs.size (.tup [.str ⟨#[c]⟩, .str ⟨#[d]⟩]) :=
      ⟨by show 2 ≤ sizeLine; decide, [.str ⟨#[c]⟩ uc, .str ⟨#[d]⟩ ud], .cons ⟨uc, rfl⟩ (.cons ⟨ud, rfl⟩ .nil), ⟨_, hT2, rfl, _, rfl⟩⟩
    have I1 : Inv X pins σ (upd H s.heap.objs.size (.tup [.str ⟨#[c]⟩, .str ⟨#[d]⟩])) { s with heap := h'', toks := tk } :=
      I.turnedNew (t' := tk) (ch := [z, TI, TO, i1, i2]) (fun c o hb q => (sb.2 c (fun q' => hb (by simp [q']))).trans (hk c o (fun q' => hb (by simp [q'])) (fun q' => hb (by simp [q'])) (fun q' => hb (by simp [q'])) (fun q' => hb (by simp [q'])) q)) hf (Nat.le_refl _) new
    refine ⟨.ref s.heap.objs.size, _, I1, rfl, ⟨_, c, d, rfl, I.hok.fresh (Nat.le_refl _), rfl, hcx, hdx⟩, ⟨z'', ?_, ⟨.str ⟨#[c]⟩ uc, .str ⟨#[d]⟩ ud, ?_⟩, ?_, ?_⟩, fun c hcm => ?_⟩
    · exact (sb.2 _ D.TIz).trans (hk _ _ D.TIz D.TITO D.TIi1 D.TIi2 hTI)
    · exact (sb.2 _ D.TOz).trans TO'
    · obtain ⟨o, e, r⟩ := h1'
      exact ⟨o, (sb.2 _ D.zi1.symm).trans e, r⟩
    · obtain ⟨o, e, r⟩ := h2'
      exact ⟨o, (sb.2 _ D.zi2.symm).trans e, r⟩
    · have hlt : c < s.heap.objs.size := by
        have e' : c = z ∨ c = TI ∨ c = TO ∨ c = i1 ∨ c = i2 := by simpa using hcm
        rcases e' with q | q | q | q | q
        · rw [q]; exact hzl
        · rw [q]; exact Heap.lt_size hTI
        · rw [q]; exact Heap.lt_size hTO
        · rw [q]; obtain ⟨_, e1, _⟩ := h1; exact Heap.lt_size e1
        · rw [q]; obtain ⟨_, e2, _⟩ := h2; exact Heap.lt_size e2
      rw [upd_ne (Nat.ne_of_lt hlt)]
      exact (hf c hcm).1
  done := by
    intro X hP hw hK hc i pins s σ H E I hf st hg
    subst hP hw hK
    obtain ⟨hz, hTI, ⟨a, b, hTO⟩, h1, h2⟩ := st
    have hh : X.A.in1.handled = none := I.ok.hd hc
    exact wpAny_pyNext_zipD2_end D (Draws.strAscii hh i1 x t) (Draws.strAscii hh i2 y u) hz hTI hTO h1 h2 hg.1 hg.2.1 hg.2.2 fun h' tk hk => ⟨rfl, I.turnedL (t' := tk) (ch := [z, TI, TO, i1, i2]) (fun c o hb q =>
      hk c o (fun q' => hb (by simp [q'])) (fun q' => hb (by simp [q'])) (fun q' => hb (by simp [q'])) (fun q' => hb (by simp [q'])) q) hf⟩
  self := fun A i s Q E st h => wpAny_pyIter_zip st.1 h
def iZipS (ta : TA) : TI := fun σ H R => ta σ H fun vs H1 => ∃ x y : Str, vs = [.str x, .str y] ∧ Asc x ∧ Asc y ∧ R (ItzS x y) H1
theorem pi_zipS {X : Cx} {e e2 : Expr} {ta : TA} {p pos tpos : Pos} {elts : List Expr} {kk : Nat} (hg : Gl X "zip") (hm : X.mg "zip" = none) (ha : PA X [e, e2] ta)
    (hs : starEach [e, e2] X.env = (false, eval e X.env) :: starEach [e2] X.env := by rfl) (hpl : (backTo pos (starEach [e2] X.env)).any (·.1) = false := by rfl) :
    PI X (.Tuple elts kk tpos) (.Call (.Name "zip" p) [e, e2] [] pos) (iZipS ta) := by
  refine ⟨fun pins s σ H R I h => ?_⟩
  refine Call_ (ld_blt I hg hm PyProof.Rows.boot_zip (PyProof.Rows.callWith_type1 (thn (ha.run pos pins s σ H _ I h) fun us s1 ⟨vs, H1, I1, r1, q1⟩ => ?_) hs hpl))
  obtain ⟨x, y, ex, ax, ay, q⟩ := q1
  subst ex
  cases r1 with
  | cons r rr =>
    cases rr with
    | cons r' rr =>
      cases rr
      obtain ⟨t, rfl⟩ := r
      obtain ⟨u, rfl⟩ := r'
      refine call_zipS (ascB_of ax) (ascB_of ay) fun h' hz hTI hTO h1 h2 hk => wpAny_pyIter_zip hz ?_
      have I2 : Inv X pins σ H1 { s1 with heap := h' } := I1.kept (t' := s1.toks) hk
      refine ⟨s1.heap.objs.size + 4, [s1.heap.objs.size + 4, s1.heap.objs.size + 2, s1.heap.objs.size + 3, s1.heap.objs.size, s1.heap.objs.size + 1], _, _, H1, rfl, I2, turn_zipS (sepS s1.heap.objs.size), ⟨hz, hTI, ⟨_, _, hTO⟩, h1, h2⟩, fun c hcm => ?_, q⟩
      have e' : c = s1.heap.objs.size + 4 ∨ c = s1.heap.objs.size + 2 ∨ c = s1.heap.objs.size + 3 ∨ c = s1.heap.objs.size ∨ c = s1.heap.objs.size + 1 := by simpa using hcm
      have hle : s1.heap.objs.size ≤ c := by
        rcases e' with z | z | z | z | z
        · rw [z]; exact Nat.le_add_right _ _
        · rw [z]; exact Nat.le_add_right _ _
        · rw [z]; exact Nat.le_add_right _ _
        · rw [z]; exact Nat.le_refl _
        · rw [z]; exact Nat.le_add_right _ _
      exact I1.fpOk hle (I1.hok.fresh hle)
theorem walk_zipS {x y : Str} {n : Nat} (hn : n = min x.cps.size y.cps.size) : Walk (ItzS x y) n (fun _ => True) (fun i H v H' => ∃ (T : Addr) (c d : Nat), v = .ref T ∧ H T = none ∧ H' = upd H T (.tup [.str ⟨#[c]⟩, .str ⟨#[d]⟩]) ∧ x.cps[i]? = some c ∧ y.cps[i]? = some d) :=
  ⟨fun i _ hi _ => ⟨by omega, by omega⟩, fun _ _ => ⟨by omega, by omega, by omega⟩, fun _ _ _ _ _ _ y => y⟩
end Dear

namespace Dear
open PySem PySem.Spec PyProof.Rows L2
/-! ### enumerate(zip(list, list)): the pair stands within enumerate's own tuple, so zip finds it still out -/
theorem alive_to {M : Model} {A : Around} {E : Value → Shared → Prop} {s : Shared} {b : Addr} {Q : Option Obj → Shared → Prop} (h : Q (s.heap.get? b) s) : wpAny M A (loadIfAlive b) Q E s :=
  fun Γ p hΓ => by
    unfold loadIfAlive
    rw [Sem.wp_loadIfAlive]
    exact h
section
variable {prog : Program} {w : World} {A : Around} {E : Value → Shared → Prop} {s : Shared} {q U V j1 j2 m1 m2 : Addr} {n1 n2 : Nat} {as bs : Array Value}
/-- the zip's state: nothing out yet, or the tuple at T once given out -/
def ZSt (h : Heap) (q U V : Addr) : Prop := IsZip h q U V .none ∨ ∃ T f, IsZipHeld h q U V T f
theorem ZSt.type {h : Heap} (z : ZSt h q U V) : ∃ o, h.get? q = some o ∧ o.cls = .type "zip" ∧ ∀ v, o.data ≠ .cell v := by
  rcases z with z | ⟨T, f, z⟩
  · exact ⟨_, z, rfl, fun v e => nomatch e⟩
  · exact ⟨_, z, rfl, fun v e => nomatch e⟩
theorem ZSt.at {h h' : Heap} (z : ZSt h q U V) (e : ∀ o, h.get? q = some o → h'.get? q = some o) : ZSt h' q U V := by
  rcases z with z | ⟨T, f, z⟩
  · exact .inl (e _ z)
  · exact .inr ⟨T, f, e _ z⟩
/-- the tuple once given out is gone -/
theorem gone_zip {T : Addr} {f : Bool} {Q : Bool → Shared → Prop} (zq : IsZipHeld s.heap q U V T f) (g : s.heap.get? T = none) (k : Q true s) : wpAny (model prog w) A (Builtin.SmallTypes.ownedTupleIsFree (.ref q)) Q E s := by
  unfold Builtin.SmallTypes.ownedTupleIsFree
  refine wpAny_bind (wpAny_field zq rfl (x := rawInt T) rfl ?_)
  show wpAny _ _ (loadIfAlive ((T : Int).toNat) >>= _) _ _ s
  rw [Int.toNat_natCast]
  refine wpAny_bind (alive_to ?_)
  rw [g]
  exact wpAny_pure k
abbrev ZGone (h : Heap) (q U V : Addr) (x : Value) (f : Bool) : Prop :=
  h.get? q = some { cls := .type "zip", dict := none, data := .fields #[x, .bool f, .bool false, .ref U, .ref V], slots := #[] }
theorem item_gone {T : Addr} {f : Bool} {a b c d : Value} {Q : Value → Shared → Prop} (D : ZipApart q U V j1 j2 m1 m2)
    (zq : IsZipHeld s.heap q U V T f) (g : s.heap.get? T = none) (pU : IsPair s.heap U (.ref j1) (.ref j2)) (pV : IsPair s.heap V c d)
    (i1 : s.heap.IsListIter j1 m1 n1) (i2 : s.heap.IsListIter j2 m2 n2) (ls1 : s.heap.IsList m1 as) (ls2 : s.heap.IsList m2 bs) (ha : as[n1]? = some a) (hb : bs[n2]? = some b)
    (k : ∀ h', ZSt h' q U V → (∃ c d, IsPair h' V c d) → h'.IsListIter j1 m1 (n1 + 1) → h'.IsListIter j2 m2 (n2 + 1) → IsPair h' s.heap.objs.size a b → h'.objs.size = s.heap.objs.size + 1 →
      (∀ c o, c ≠ q → c ≠ V → c ≠ j1 → c ≠ j2 → s.heap.get? c = some o → h'.get? c = some o) → Q (.ref s.heap.objs.size) { s with heap := h' }) :
    wpAny (model prog w) A (Builtin.«zip.__next__» ⟨[.ref q], []⟩) (fun fin s' => ∃ v, fin = .done (.ret v) ∧ Q v s') E s := by
  show wpAny _ _ (field (.ref q) 2 >>= _) _ _ s
  refine wpAny_bind (wpAny_field zq rfl (x := .bool false) rfl ?_)
  show wpAny _ _ (field (.ref q) 3 >>= _) _ _ s
  refine wpAny_bind (wpAny_field zq rfl (x := .ref U) rfl ?_)
  refine wpAny_bind (wpAny_seqItems pU rfl ?_)
  show wpAny _ _ (Builtin.SmallTypes.ownedTupleIsFree (.ref q) >>= _) _ _ s
  refine wpAny_bind (gone_zip zq g ?_)
  rw [if_pos rfl]
  refine wpAny_bind (wpAny_rule ?_)
  refine wpAny_bind (wpAny_field zq rfl (x := .ref V) rfl ?_)
  refine wpAny_bind (wpAny_setField_rec zq (by simp) fun g1 zq1 t1 => ?_)
  replace zq1 : ZGone g1 q U V .ellipsis f := zq1
  refine wpAny_bind ?_
  simp only [List.zipIdx_cons, List.zipIdx_nil, List.forIn_cons, List.forIn_nil]
  refine wpAny_bind (wpAny_bind (wpAny_onRaise ?_))
  show wpAny _ _ (Builtin.SmallTypes.nextOf (.ref j1) >>= _) _ _ { s with heap := g1 }
  refine wpAny_bind (wpAny_nextOf_list_item (i1.extBut t1.extBut D.i1z) (ls1.extBut t1.extBut D.l1z) ha fun g2 i1' t2 => wpAny_pure ?_)
  have pV2 : IsPair g2 V c d := t2.extBut _ _ D.TOi1 (t1.extBut _ _ D.TOz pV)
  refine wpAny_bind (wpAny_seqItems pV2 rfl ?_)
  refine wpAny_bind (wpAny_updateSeq_pair pV2 fun g3 pV3 t3 => ?_)
  replace pV3 : IsPair g3 V a d := pV3
  refine wpAny_bind (wpAny_letGo (wpAny_pure ?_))
  refine wpAny_bind (wpAny_bind (wpAny_onRaise ?_))
  show wpAny _ _ (Builtin.SmallTypes.nextOf (.ref j2) >>= _) _ _ { s with heap := g3 }
  refine wpAny_bind (wpAny_nextOf_list_item (((i2.extBut t1.extBut D.i2z).extBut t2.extBut D.i12.symm).extBut t3.extBut D.TOi2.symm) (((ls2.extBut t1.extBut D.l2z).extBut t2.extBut D.l2i1).extBut t3.extBut D.l2TO) hb fun g4 i2' t4 => wpAny_pure ?_)
  have pV4 : IsPair g4 V a d := t4.extBut _ _ D.TOi2 pV3
  refine wpAny_bind (wpAny_seqItems pV4 rfl ?_)
  refine wpAny_bind (wpAny_updateSeq_pair pV4 fun g5 pV5 t5 => ?_)
  replace pV5 : IsPair g5 V a b := pV5
  refine wpAny_bind (wpAny_letGo (wpAny_pure (wpAny_pure ?_)))
  refine wpAny_bind (wpAny_seqItems pV5 rfl ?_)
  refine wpAny_bind (wpAny_newTuple ?_)
  have sz : g5.objs.size = s.heap.objs.size := by rw [t5.1, t4.1, t3.1, t2.1, t1.1]
  have zq5 : ZGone g5 q U V .ellipsis f := t5.extBut _ _ D.TOz.symm (t4.extBut _ _ D.i2z.symm (t3.extBut _ _ D.TOz.symm (t2.extBut _ _ D.i1z.symm zq1)))
  have kp : ∀ c o, c ≠ q → c ≠ V → c ≠ j1 → c ≠ j2 → s.heap.get? c = some o → g5.get? c = some o := fun c o c1 c2 c3 c4 e =>
    t5.extBut _ _ c2 (t4.extBut _ _ c4 (t3.extBut _ _ c2 (t2.extBut _ _ c3 (t1.extBut _ _ c1 e))))
  have i1e : g5.IsListIter j1 m1 (n1 + 1) := ((i1'.extBut t3.extBut D.TOi1.symm).extBut t4.extBut D.i12).extBut t5.extBut D.TOi1.symm
  have i2e : g5.IsListIter j2 m2 (n2 + 1) := i2'.extBut t5.extBut D.TOi2.symm
  have ql : q < g5.objs.size := Heap.lt_size zq5
  show wpAny _ _ (Builtin.SmallTypes.ownedTupleHandOut (.ref q) (.ref g5.objs.size) >>= _) _ _ _
  refine wpAny_bind ?_
  unfold Builtin.SmallTypes.ownedTupleHandOut
  have zq6 : ZGone (g5.push { cls := .type "tuple", data := .seq #[a, b] }) q U V .ellipsis f := Heap.get?_push_of_some _ zq5
  refine wpAny_bind (wpAny_setField_rec zq6 (by simp) fun g7 zq7 t7 => ?_)
  replace zq7 : ZGone g7 q U V (rawInt g5.objs.size) f := zq7
  refine wpAny_setField_rec zq7 (by simp) fun g8 zq8 t8 => ?_
  replace zq8 : IsZipHeld g8 q U V g5.objs.size false := zq8
  have up : ∀ c o, c ≠ q → g5.get? c = some o → g8.get? c = some o := fun c o c1 e => t8.extBut _ _ c1 (t7.extBut _ _ c1 (Heap.get?_push_of_some _ e))
  have new : IsPair g8 g5.objs.size a b := t8.extBut _ _ (Nat.ne_of_gt ql) (t7.extBut _ _ (Nat.ne_of_gt ql) (Heap.get?_push_size _ rfl))
  have sz8 : g8.objs.size = g5.objs.size + 1 := by rw [t8.1, t7.1, Heap.size_push]
  rw [sz] at new sz8
  refine wpAny_pure ⟨_, rfl, ?_⟩
  show Q (.ref g5.objs.size) _
  rw [sz]
  exact k g8 (.inr ⟨_, _, zq8⟩) ⟨a, b, up _ _ D.TOz pV5⟩ (i1e.at fun o e => up _ o D.i1z e) (i2e.at fun o e => up _ o D.i2z e) new sz8 fun c o c1 c2 c3 c4 e => up c o c1 (kp c o c1 c2 c3 c4 e)
theorem end_gone {T : Addr} {f : Bool} {c d : Value} {Q : Fin → Shared → Prop} (hh : A.handled = none) (D : ZipApart q U V j1 j2 m1 m2)
    (zq : IsZipHeld s.heap q U V T f) (g : s.heap.get? T = none) (pU : IsPair s.heap U (.ref j1) (.ref j2)) (pV : IsPair s.heap V c d)
    (i1 : s.heap.IsListIter j1 m1 n1) (i2 : s.heap.IsListIter j2 m2 n2) (ls1 : s.heap.IsList m1 as) (ls2 : s.heap.IsList m2 bs) (he : as[n1]? = none ∨ bs[n2]? = none)
    (k : ∀ h' e, (∀ c o, c ≠ q → c ≠ V → c ≠ j1 → c ≠ j2 → s.heap.get? c = some o → h'.get? c = some o) → (∃ o, h'.get? e = some o ∧ o.cls = .type "StopIteration") → E (.ref e) { s with heap := h' }) :
    wpAny (model prog w) A (Builtin.«zip.__next__» ⟨[.ref q], []⟩) Q E s := by
  show wpAny _ _ (field (.ref q) 2 >>= _) _ _ s
  refine wpAny_bind (wpAny_field zq rfl (x := .bool false) rfl ?_)
  show wpAny _ _ (field (.ref q) 3 >>= _) _ _ s
  refine wpAny_bind (wpAny_field zq rfl (x := .ref U) rfl ?_)
  refine wpAny_bind (wpAny_seqItems pU rfl ?_)
  show wpAny _ _ (Builtin.SmallTypes.ownedTupleIsFree (.ref q) >>= _) _ _ s
  refine wpAny_bind (gone_zip zq g ?_)
  rw [if_pos rfl]
  refine wpAny_bind (wpAny_rule ?_)
  refine wpAny_bind (wpAny_field zq rfl (x := .ref V) rfl ?_)
  refine wpAny_bind (wpAny_setField_rec zq (by simp) fun g1 zq1 t1 => ?_)
  replace zq1 : ZGone g1 q U V .ellipsis f := zq1
  refine wpAny_bind ?_
  simp only [List.zipIdx_cons, List.zipIdx_nil, List.forIn_cons, List.forIn_nil]
  refine wpAny_bind (wpAny_bind (wpAny_onRaise ?_))
  show wpAny _ _ (Builtin.SmallTypes.nextOf (.ref j1) >>= _) _ _ { s with heap := g1 }
  have fin : ∀ (g2 : Heap) (e : Addr) (t : ∀ c o, c ≠ q → c ≠ V → c ≠ j1 → c ≠ j2 → s.heap.get? c = some o → g2.get? c = some o) (zq2 : ZGone g2 q U V .ellipsis f) (x : ∃ o, g2.get? e = some o ∧ o.cls = .type "StopIteration"),
      wpAny (model prog w) A (setField (.ref q) 0 .none) (fun _ s' => E (.ref e) s') E { s with heap := g2 } := by
    rintro g2 e t zq2 ⟨o, ho, hc⟩
    have ne : e ≠ q := fun z => by subst z; rw [zq2] at ho; cases ho; simp at hc
    exact wpAny_setField_rec (s := { s with heap := g2 }) zq2 (by simp) fun g3 _ t3 => k g3 e (fun c o c1 c2 c3 c4 x => t3.extBut _ _ c1 (t c o c1 c2 c3 c4 x)) ⟨o, t3.extBut _ _ ne ho, hc⟩
  cases ha : as[n1]? with
  | none =>
    refine wpAny_bind (wpAny_nextOf_list_end (s := { s with heap := g1 }) hh (i1.extBut t1.extBut D.i1z) (ls1.extBut t1.extBut D.l1z) ha fun g2 e t2 x => ?_)
    exact fin g2 e (fun c o c1 c2 c3 c4 y => t2 _ _ c3 (t1.extBut _ _ c1 y)) (t2 _ _ D.i1z.symm zq1) x
  | some a =>
    have hb : bs[n2]? = none := he.elim (fun z => by rw [ha] at z; cases z) id
    refine wpAny_bind (wpAny_nextOf_list_item (s := { s with heap := g1 }) (i1.extBut t1.extBut D.i1z) (ls1.extBut t1.extBut D.l1z) ha fun g2 i1' t2 => wpAny_pure ?_)
    have pV2 : IsPair g2 V c d := t2.extBut _ _ D.TOi1 (t1.extBut _ _ D.TOz pV)
    refine wpAny_bind (wpAny_seqItems pV2 rfl ?_)
    refine wpAny_bind (wpAny_updateSeq_pair pV2 fun g3 pV3 t3 => ?_)
    refine wpAny_bind (wpAny_letGo (wpAny_pure ?_))
    refine wpAny_bind (wpAny_bind (wpAny_onRaise ?_))
    show wpAny _ _ (Builtin.SmallTypes.nextOf (.ref j2) >>= _) _ _ { s with heap := g3 }
    refine wpAny_bind (wpAny_nextOf_list_end (s := { s with heap := g3 }) hh (((i2.extBut t1.extBut D.i2z).extBut t2.extBut D.i12.symm).extBut t3.extBut D.TOi2.symm) (((ls2.extBut t1.extBut D.l2z).extBut t2.extBut D.l2i1).extBut t3.extBut D.l2TO) hb fun g4 e t4 x => ?_)
    exact fin g4 e (fun c o c1 c2 c3 c4 y => t4 _ _ c4 (t3.extBut _ _ c2 (t2.extBut _ _ c3 (t1.extBut _ _ c1 y)))) (t4 _ _ D.i2z.symm (t3.extBut _ _ D.TOz.symm (t2.extBut _ _ D.i1z.symm zq1))) x
/-- zip's next, whatever is out -/
theorem nextOf_zip {a b c d : Value} {Q : Value → Shared → Prop} (D : ZipApart q U V j1 j2 m1 m2) (zq : ZSt s.heap q U V) (pU : IsPair s.heap U (.ref j1) (.ref j2)) (pV : IsPair s.heap V c d)
    (i1 : s.heap.IsListIter j1 m1 n1) (i2 : s.heap.IsListIter j2 m2 n2) (ls1 : s.heap.IsList m1 as) (ls2 : s.heap.IsList m2 bs) (ha : as[n1]? = some a) (hb : bs[n2]? = some b)
    (k : ∀ h', ZSt h' q U V → (∃ c d, IsPair h' V c d) → h'.IsListIter j1 m1 (n1 + 1) → h'.IsListIter j2 m2 (n2 + 1) → IsPair h' s.heap.objs.size a b → h'.objs.size = s.heap.objs.size + 1 →
      (∀ c o, c ≠ q → c ≠ V → c ≠ j1 → c ≠ j2 → s.heap.get? c = some o → h'.get? c = some o) → Q (.ref s.heap.objs.size) { s with heap := h' }) :
    wpAny (model prog w) A (Builtin.SmallTypes.nextOf (.ref q)) Q E s := by
  obtain ⟨o, ho, hc, _⟩ := zq.type
  have ty : s.TypeIs (.ref q) "zip" := ⟨o, ho, hc⟩
  have core : ∀ Q' : Value → Shared → Prop, (∀ v s', Q v s' → Q' v s') → wpAny (model prog w) A.in1 (Builtin.«zip.__next__» ⟨[.ref q], []⟩) (fun fin s' => ∃ v, fin = .done (.ret v) ∧ Q' v s') E s := by
    intro Q' to
    replace k := fun h' z1 z2 z3 z4 z5 z6 z7 => to _ _ (k h' z1 z2 z3 z4 z5 z6 z7)
    rcases zq with zq | ⟨T, f, zq⟩
    · exact zip_next_item D zq pU pV i1 i2 ls1 ls2 ha hb fun h' z1 z2 z3 z4 z5 z6 z7 => k h' (.inr ⟨_, _, z1⟩) ⟨_, _, z2⟩ z3 z4 z5 z6 z7
    · cases g : s.heap.get? T with
      | none => exact item_gone D zq g pU pV i1 i2 ls1 ls2 ha hb k
      | some oT => exact zip_next_item_held D zq g pU i1 i2 ls1 ls2 ha hb fun h' z1 z3 z4 z5 z6 z7 => k h' (.inr ⟨_, _, z1⟩) ⟨c, d, z7 _ _ D.TOz D.TOi1 D.TOi2 pV⟩ z3 z4 z5 z6 fun c o c1 _ c3 c4 e => z7 c o c1 c3 c4 e
  unfold Builtin.SmallTypes.nextOf
  exact wpAny_bind (wpAny_callSpecial?_slot (name := Str.ofString "__next__") ty F.slot_zip_next (wpAny_call_entry F.slot_zip_next ty F.entry_zip_next (core _ fun v s' z => wpAny_pure z) (F.args_zip_next_1 _)))
theorem endOf_zip {c d : Value} {Q : Value → Shared → Prop} (hh : A.handled = none) (D : ZipApart q U V j1 j2 m1 m2) (zq : ZSt s.heap q U V) (pU : IsPair s.heap U (.ref j1) (.ref j2)) (pV : IsPair s.heap V c d)
    (i1 : s.heap.IsListIter j1 m1 n1) (i2 : s.heap.IsListIter j2 m2 n2) (ls1 : s.heap.IsList m1 as) (ls2 : s.heap.IsList m2 bs) (he : as[n1]? = none ∨ bs[n2]? = none)
    (k : ∀ h' e, (∀ c o, c ≠ q → c ≠ V → c ≠ j1 → c ≠ j2 → s.heap.get? c = some o → h'.get? c = some o) → (∃ o, h'.get? e = some o ∧ o.cls = .type "StopIteration") → E (.ref e) { s with heap := h' }) :
    wpAny (model prog w) A (Builtin.SmallTypes.nextOf (.ref q)) Q E s := by
  obtain ⟨o, ho, hc, _⟩ := zq.type
  have ty : s.TypeIs (.ref q) "zip" := ⟨o, ho, hc⟩
  have hh : A.in1.handled = none := hh
  have core : ∀ Q' : Fin → Shared → Prop, wpAny (model prog w) A.in1 (Builtin.«zip.__next__» ⟨[.ref q], []⟩) Q' E s := by
    intro Q'
    rcases zq with zq | ⟨T, f, zq⟩
    · exact zip_next_end hh D zq pU pV i1 i2 ls1 ls2 he k
    · cases g : s.heap.get? T with
      | none => exact end_gone hh D zq g pU pV i1 i2 ls1 ls2 he k
      | some oT => exact zip_next_end_held hh D zq g pU i1 i2 ls1 ls2 he fun h' e z x => k h' e (fun c o c1 _ c3 c4 y => z c o c1 c3 c4 y) x
  unfold Builtin.SmallTypes.nextOf
  exact wpAny_bind (wpAny_callSpecial?_slot (name := Str.ofString "__next__") ty F.slot_zip_next (wpAny_call_entry F.slot_zip_next ty F.entry_zip_next (core _) (F.args_zip_next_1 _)))
/-- enumerate's next over any iterator's -/
theorem step_enum {e it : Addr} {i : Int} {old : Value} {R : Value → Heap → Prop} {Q : Value → Shared → Prop} (ee : IsEnum s.heap e it i old)
    (inn : ∀ Q' : Value → Shared → Prop, (∀ x g, R x g → Q' x { s with heap := g }) → wpAny (model prog w) A (Builtin.SmallTypes.nextOf (.ref it)) Q' E s)
    (kp : ∀ x g, R x g → IsEnum g e it i old)
    (k : ∀ x g h', R x g → IsEnumOut h' e it (i + 1) x g.objs.size → h'.get? g.objs.size = some { cls := .type "tuple", data := .seq #[.int i s.toks, x] } → h'.objs.size = g.objs.size + 1 →
      (∀ b o, b ≠ e → g.get? b = some o → h'.get? b = some o) → Q (.ref g.objs.size) { s with heap := h', toks := s.toks + 1 }) :
    wpAny (model prog w) A (Builtin.«enumerate.__next__» ⟨[.ref e], []⟩) (fun fin s' => ∃ v, fin = .done (.ret v) ∧ Q v s') E s := by
  obtain ⟨hp, gs, dn, tk, os⟩ := s
  show wpAny _ _ (field (.ref e) 2 >>= _) _ _ ⟨hp, gs, dn, tk, os⟩
  refine wpAny_bind (wpAny_field ee rfl (x := .ref it) rfl ?_)
  refine wpAny_bind (inn _ fun x g1 r => ?_)
  have e1 : IsEnum g1 e it i old := kp x g1 r
  show wpAny _ _ (field (.ref e) 3 >>= _) _ _ ⟨g1, gs, dn, tk, os⟩
  refine wpAny_bind (wpAny_field e1 rfl (x := rawInt i) rfl ?_)
  show wpAny _ _ (field (.ref e) 4 >>= _) _ _ ⟨g1, gs, dn, tk, os⟩
  refine wpAny_bind (wpAny_field e1 rfl (x := .none) rfl ?_)
  show wpAny _ _ (mkInt i >>= _) _ _ ⟨g1, gs, dn, tk, os⟩
  refine wpAny_bind (wpAny_mkInt ?_)
  show wpAny _ _ (setField (.ref e) 3 (rawInt (i + 1)) >>= _) _ _ ⟨g1, gs, dn, tk + 1, os⟩
  refine wpAny_bind (wpAny_setField_rec e1 (by simp) fun g2 e2 t2 => ?_)
  replace t2 : Heap.SameBut e g1 g2 := t2
  replace e2 : IsEnum g2 e it (i + 1) old := e2
  show wpAny _ _ (setField (.ref e) 4 .none >>= _) _ _ ⟨g2, gs, dn, tk + 1, os⟩
  refine wpAny_bind (wpAny_setField_rec e2 (by simp) fun g3 e3 t3 => ?_)
  replace t3 : Heap.SameBut e g2 g3 := t3
  replace e3 : IsEnum g3 e it (i + 1) old := e3
  show wpAny _ _ (newTuple [.int i tk, x] >>= _) _ _ ⟨g3, gs, dn, tk + 1, os⟩
  refine wpAny_bind (wpAny_newTuple ?_)
  have e4 : IsEnum (g3.push { cls := .type "tuple", data := .seq #[.int i tk, x] }) e it (i + 1) old := Heap.get?_push_of_some _ e3
  generalize eg : g3.push { cls := .type "tuple", data := .seq #[.int i tk, x] } = g4 at e4
  have sz : g3.objs.size = g1.objs.size := by rw [t3.1, t2.1]
  have el : e < g1.objs.size := Heap.lt_size e1
  have n4 : g4.get? g1.objs.size = some { cls := .type "tuple", data := .seq #[.int i tk, x] } := by rw [← eg, ← sz]; exact Heap.get?_push_size _ rfl
  have z4 : g4.objs.size = g1.objs.size + 1 := by rw [← eg, Heap.size_push, sz]
  have k4 : ∀ b o, b ≠ e → g1.get? b = some o → g4.get? b = some o := fun b o be y => by
    rw [← eg]
    exact Heap.get?_push_of_some _ (t3.extBut b o be (t2.extBut b o be y))
  show wpAny _ _ (Builtin.SmallTypes.ownedTupleIsFree (.ref e) >>= _) _ _ ⟨g4, gs, dn, tk + 1, os⟩
  rw [sz]
  refine wpAny_bind ?_
  unfold Builtin.SmallTypes.ownedTupleIsFree
  refine wpAny_bind (wpAny_field e4 rfl (x := .none) rfl (wpAny_pure ?_))
  rw [if_pos rfl]
  refine wpAny_bind (wpAny_rule ?_)
  refine wpAny_bind (wpAny_field e4 rfl (x := old) rfl ?_)
  refine wpAny_bind (wpAny_setField_rec e4 (by simp) fun g5 e5 t5 => ?_)
  replace t5 : Heap.SameBut e g4 g5 := t5
  replace e5 : IsEnum g5 e it (i + 1) x := e5
  show wpAny _ _ (Builtin.SmallTypes.ownedTupleHandOut (.ref e) (.ref g1.objs.size) >>= _) _ _ ⟨g5, gs, dn, tk + 1, os⟩
  refine wpAny_bind ?_
  unfold Builtin.SmallTypes.ownedTupleHandOut
  refine wpAny_bind (wpAny_setField_rec e5 (by simp) fun g6 e6 t6 => ?_)
  replace t6 : Heap.SameBut e g5 g6 := t6
  replace e6 : IsEnumOut g6 e it (i + 1) x g1.objs.size := e6
  refine wpAny_setField_rec e6 (by simp) fun g7 e7 t7 => ?_
  replace t7 : Heap.SameBut e g6 g7 := t7
  replace e7 : IsEnumOut g7 e it (i + 1) x g1.objs.size := e7
  have up : ∀ b o, b ≠ e → g4.get? b = some o → g7.get? b = some o := fun b o be y => t7.extBut b o be (t6.extBut b o be (t5.extBut b o be y))
  refine wpAny_bind (wpAny_letGo (wpAny_pure ⟨_, rfl, ?_⟩))
  exact k x g1 g7 r e7 (up _ _ (Nat.ne_of_gt el) n4) (by rw [t7.1, t6.1, t5.1, z4]) fun b o be y => up b o be (k4 b o be y)
end
/-- both lists as they stand at each turn; each pair, and the tuple of its number and it, are new -/
def Itez (K : PySem.W.Frag) (a b : Addr) : It :=
  ⟨fun i H => ∃ (xs ys : List V) (x y : V), SqL K H a xs ∧ SqL K H b ys ∧ xs[i]? = some x ∧ ys[i]? = some y,
    fun i H v H' => ∃ Z T x y, v = .ref T ∧ H Z = none ∧ T ≠ Z ∧ H T = none ∧ H' = upd (upd H Z (.tup [x, y])) T (.tup [.int (i : Nat), .ref Z]) ∧ (∀ xs, SqL K H a xs → xs[i]? = some x) ∧ ∀ ys, SqL K H b ys → ys[i]? = some y,
    fun i H => ∃ xs ys : List V, SqL K H a xs ∧ SqL K H b ys ∧ (xs.length ≤ i ∨ ys.length ≤ i)⟩
theorem turn_enumz {P : Program} {w : World} {K : PySem.W.Frag} {elts : List Expr} {kk : Nat} {tpos : Pos} {a b e q U V j1 j2 : Addr} (D : ZipApart q U V j1 j2 a b) (n1 : e ≠ q) (n2 : e ≠ U) (n3 : e ≠ V) (n4 : e ≠ j1) (n5 : e ≠ j2) :
    Turn P w K (.Tuple elts kk tpos) (Itez K a b) [e, q, U, V, j1, j2] e (fun i h => (∃ old, IsEnum h e q ((i : Nat) : Int) old) ∧ ZSt h q U V ∧ IsPair h U (.ref j1) (.ref j2) ∧ (∃ x y, IsPair h V x y) ∧ h.IsListIter j1 a i ∧ h.IsListIter j2 b i) where
  mem := by simp
  obj := fun i h st c hc => by
    obtain ⟨⟨old, he⟩, hz, hU, ⟨x, y, hV⟩, ⟨o1, e1, _, d1⟩, ⟨o2, e2, _, d2⟩⟩ := st
    have e' : c = e ∨ c = q ∨ c = U ∨ c = V ∨ c = j1 ∨ c = j2 := by simpa using hc
    rcases e' with z | z | z | z | z | z
    · rw [z]; exact ⟨_, he, fun v y => nomatch y⟩
    · rw [z]; obtain ⟨o, ho, _, r⟩ := hz.type; exact ⟨o, ho, r⟩
    · rw [z]; exact ⟨_, hU, fun v y => nomatch y⟩
    · rw [z]; exact ⟨_, hV, fun v y => nomatch y⟩
    · rw [z]; exact ⟨o1, e1, fun v y => by rw [d1] at y; cases y⟩
    · rw [z]; exact ⟨o2, e2, fun v y => by rw [d2] at y; cases y⟩
  keep := fun i h h' st k => by
    obtain ⟨⟨old, he⟩, hz, hU, ⟨x, y, hV⟩, h1, h2⟩ := st
    exact ⟨⟨old, k e (by simp) _ he⟩, hz.at fun o y => k q (by simp) o y, k U (by simp) _ hU, ⟨x, y, k V (by simp) _ hV⟩, h1.at fun o y => k j1 (by simp) o y, h2.at fun o y => k j2 (by simp) o y⟩
  item := by
    intro X hP hw hK hc i pins s σ H E I hf st hg
    subst hP hw hK
    obtain ⟨⟨old, he⟩, hz, hU, ⟨x0, y0, hV⟩, h1, h2⟩ := st
    obtain ⟨xs, ys, x, y, hqx, hqy, hx, hy⟩ := hg
    obtain ⟨its, rv, p, _⟩ := I.list hqx
    obtain ⟨its2, rv2, p2, _⟩ := I.list hqy
    obtain ⟨u, hu, ru⟩ := rv.get hx
    obtain ⟨u2, hu2, ru2⟩ := rv2.get hy
    have el : e < s.heap.objs.size := Heap.lt_size he
    have ql : q < s.heap.objs.size := by obtain ⟨o, ho, _⟩ := hz.type; exact Heap.lt_size ho
    have Ul : U < s.heap.objs.size := Heap.lt_size hU
    have Vl : V < s.heap.objs.size := Heap.lt_size hV
    have l1 : j1 < s.heap.objs.size := by obtain ⟨_, r, _⟩ := h1; exact Heap.lt_size r
    have l2 : j2 < s.heap.objs.size := by obtain ⟨_, r, _⟩ := h2; exact Heap.lt_size r
    have ty : s.TypeIs (.ref e) "enumerate" := ⟨_, he, rfl⟩
    unfold pyNext
    refine wpAny_bind (wpAny_attempt (wpAny_callSpecial?_slot (name := Str.ofString "__next__") ty F.slot_enumerate_next (wpAny_call_entry F.slot_enumerate_next ty F.entry_enumerate_next
      (step_enum (R := fun v g => v = .ref s.heap.objs.size ∧ ZSt g q U V ∧ (∃ c d, IsPair g V c d) ∧ g.IsListIter j1 a (i + 1) ∧ g.IsListIter j2 b (i + 1) ∧ IsPair g s.heap.objs.size u u2 ∧ g.objs.size = s.heap.objs.size + 1 ∧
          ∀ c o, c ≠ q → c ≠ V → c ≠ j1 → c ≠ j2 → s.heap.get? c = some o → g.get? c = some o) he
        (fun Q' k => nextOf_zip D hz hU hV h1 h2 p.isList p2.isList (a := u) (b := u2) (by simpa using hu) (by simpa using hu2) fun g z1 z2 z3 z4 z5 z6 z7 => k _ g ⟨rfl, z1, z2, z3, z4, z5, z6, z7⟩)
        (fun v g r => r.2.2.2.2.2.2.2 _ _ n1 n3 n4 n5 he)
        fun v g h' r eo nw sz up => wpAny_pure ?_) (F.args_enumerate_next_1 _))))
    obtain ⟨rfl, z1, ⟨c0, d0, z2⟩, z3, z4, z5, z6, z7⟩ := r
    refine ⟨_, rfl, wpAny_letOwnedTupleGo_enum (s := { s with heap := h', toks := s.toks + 1 }) eo fun h'' ee sb => ?_⟩
    have gs : g.objs.size = s.heap.objs.size + 1 := z6
    rw [gs] at nw
    -- the pair
    have new1 : ObjOk X.prog X.w (upd H s.heap.objs.size (.tup [x, y])) g s.heap.objs.size (.tup [x, y]) :=
      ⟨by show 2 ≤ sizeLine; decide, [u, u2], .cons ru (.cons ru2 .nil), ⟨_, z5, rfl, _, rfl⟩⟩
    have hf1 : ∀ c ∈ [q, U, V, j1, j2], FpOk X pins H c := fun c hc => hf c (List.mem_cons_of_mem _ hc)
    have I1 : Inv X pins σ (upd H s.heap.objs.size (.tup [x, y])) { s with heap := g } :=
      I.turnedNew (t' := s.toks) (ch := [q, U, V, j1, j2]) (fun c o hb y => z7 c o (fun z => hb (by simp [z])) (fun z => hb (by simp [z])) (fun z => hb (by simp [z])) (fun z => hb (by simp [z])) y) hf1 (Nat.le_refl _) new1
    -- the number and it
    have fe := hf e (by simp)
    have fe1 : FpOk X pins (upd H s.heap.objs.size (.tup [x, y])) e := ⟨by rw [upd_ne (Nat.ne_of_lt el)]; exact fe.1, fe.2⟩
    have nw2 : h''.get? (s.heap.objs.size + 1) = some { cls := .type "tuple", data := .seq #[.int (i : Nat) s.toks, .ref s.heap.objs.size] } := (sb.2 _ (Nat.ne_of_gt (Nat.lt_succ_of_lt el))).trans nw
    have new2 : ObjOk X.prog X.w (upd (upd H s.heap.objs.size (.tup [x, y])) (s.heap.objs.size + 1) (.tup [.int (i : Nat), .ref s.heap.objs.size])) h'' (s.heap.objs.size + 1) (.tup [.int (i : Nat), .ref s.heap.objs.size]) :=
      ⟨by show 2 ≤ sizeLine; decide, [.int (i : Nat) s.toks, .ref s.heap.objs.size], .cons ⟨_, rfl⟩ (.cons rfl .nil), ⟨_, nw2, rfl, _, rfl⟩⟩
    have I2 : Inv X pins σ (upd (upd H s.heap.objs.size (.tup [x, y])) (s.heap.objs.size + 1) (.tup [.int (i : Nat), .ref s.heap.objs.size])) { s with heap := h'', toks := s.toks + 1 } :=
      I1.turnedNew (t' := s.toks + 1) (ch := [e]) (fun c o hb y => (sb.2 c (fun z => hb (by simp [z]))).trans (up c o (fun z => hb (by simp [z])) y)) (fun c hc => by
        have : c = e := by simpa using hc
        rw [this]; exact fe1) (by show g.objs.size ≤ _; rw [gs]; exact Nat.le_refl _) new2
    have fr1 : H (s.heap.objs.size + 1) = none := I.hok.fresh (Nat.le_succ _)
    have to : ∀ c o, c ≠ e → g.get? c = some o → h''.get? c = some o := fun c o ce y => (sb.2 c ce).trans (up c o ce y)
    refine ⟨.ref (s.heap.objs.size + 1), _, I2, by rw [gs]; rfl, ⟨s.heap.objs.size, s.heap.objs.size + 1, x, y, rfl, I.hok.fresh (Nat.le_refl _), Nat.succ_ne_self _, fr1, rfl, fun l hl => by rw [I.list_inj hl hqx]; exact hx, fun l hl => by rw [I.list_inj hl hqy]; exact hy⟩,
      ⟨⟨.ref s.heap.objs.size, ?_⟩, z1.at fun o y => to q o n1.symm y, to U _ n2.symm (z7 U _ D.TIz D.TITO D.TIi1 D.TIi2 hU), ⟨c0, d0, to V _ n3.symm z2⟩, z3.at fun o y => to j1 o n4.symm y, z4.at fun o y => to j2 o n5.symm y⟩, fun c hcm => ?_⟩
    · have e1 : ((i + 1 : Nat) : Int) = (i : Int) + 1 := by omega
      rw [e1]; exact ee
    · have cl : c < s.heap.objs.size := by
        have e' : c = e ∨ c = q ∨ c = U ∨ c = V ∨ c = j1 ∨ c = j2 := by simpa using hcm
        rcases e' with z | z | z | z | z | z <;> (rw [z]; assumption)
      rw [upd_ne (Nat.ne_of_lt (Nat.lt_succ_of_lt cl)), upd_ne (Nat.ne_of_lt cl)]
      exact (hf c hcm).1
  done := by
    intro X hP hw hK hc i pins s σ H E I hf st hg
    subst hP hw hK
    obtain ⟨⟨old, he⟩, hz, hU, ⟨x0, y0, hV⟩, h1, h2⟩ := st
    obtain ⟨xs, ys, hqx, hqy, hend⟩ := hg
    obtain ⟨its, rv, p, _⟩ := I.list hqx
    obtain ⟨its2, rv2, p2, _⟩ := I.list hqy
    have l1 := rv.length
    have l2 := rv2.length
    have hn : its.toArray[i]? = none ∨ its2.toArray[i]? = none := by
      rcases hend with y | y
      · exact .inl (by simp; omega)
      · exact .inr (by simp; omega)
    have ty : s.TypeIs (.ref e) "enumerate" := ⟨_, he, rfl⟩
    unfold pyNext
    refine wpAny_bind (wpAny_attempt (wpAny_callSpecial?_slot (name := Str.ofString "__next__") ty F.slot_enumerate_next (wpAny_call_entry F.slot_enumerate_next ty F.entry_enumerate_next ?_ (F.args_enumerate_next_1 _))))
    show wpAny _ _ (field (.ref e) 2 >>= _) _ _ s
    refine wpAny_bind (wpAny_field he rfl (x := .ref q) rfl ?_)
    refine wpAny_bind (endOf_zip (I.ok.hd hc) D hz hU hV h1 h2 p.isList p2.isList hn fun h' x kx hx => ?_)
    obtain ⟨o, ho, hcx⟩ := hx
    refine wpAny_bind (wpAny_isInstance (T := "StopIteration") (b := true) ⟨o, ho, hcx⟩ isSubtype_stop ?_)
    exact wpAny_pure ⟨rfl, I.turnedL (t' := s.toks) (ch := [e, q, U, V, j1, j2]) (fun c o hb y => kx c o (fun z => hb (by simp [z])) (fun z => hb (by simp [z])) (fun z => hb (by simp [z])) (fun z => hb (by simp [z])) y) hf⟩
  self := fun A i s Q E st h => let ⟨⟨_, he⟩, _⟩ := st; wpAny_pyIter_enum he h
theorem meets_enumz (q : Addr) : Meets (Builtin.«enumerate.__new__» ⟨[.type "enumerate", .ref q], []⟩) (fun _ R s => (∃ U V f, IsZip s.heap q U V f) ∧ R (.ok (.ret (.ref s.heap.objs.size))) { s with heap := s.heap.push { cls := .type "enumerate", data := .fields #[.none, .bool false, .ref q, rawInt 0, .none, .none] } }) :=
  .of_wp fun prog w A R s h => by
    obtain ⟨hp, g, d, tk, os⟩ := s
    obtain ⟨⟨U, V, f, hz⟩, h⟩ := h
    have hsub := sub_enumerate
    wp_walk
    refine wpAny_stack_any fun st => wpAny_pure ?_
    split
    · rename_i c _ _ _ _ _
      cases (c == Value.type "enumerate")
      · wp_walk using wpAny_pyIter_zip hz
        exact ⟨_, rfl, h⟩
      · wp_walk using wpAny_pyIter_zip hz
        exact ⟨_, rfl, h⟩
    · wp_walk using wpAny_pyIter_zip hz
      exact ⟨_, rfl, h⟩
theorem call_enumz {prog : Program} {w : World} {A : Around} {E : Value → Shared → Prop} {s : Shared} {q U V : Addr} {f : Value} {Q : Value → Shared → Prop} (hz : IsZip s.heap q U V f)
    (h : ∀ h', IsEnum h' s.heap.objs.size q 0 .none → (∀ b o, s.heap.get? b = some o → h'.get? b = some o) → Q (.ref s.heap.objs.size) { s with heap := h' }) :
    wpAny (model prog w) A (call (.type "enumerate") [.ref q]) Q E s := by
  refine callType_new F.called_enumerate (by decide) (F.typeCall_enumerate_1 _) (F.newCall_enumerate_1 _) (fun obj => F.args_object_init_2 obj _) F.entry_enumerate_new (meets_enumz q) ⟨⟨U, V, f, hz⟩, ?_⟩
  have he : IsEnum (s.heap.push { cls := .type "enumerate", data := .fields #[.none, .bool false, .ref q, rawInt 0, .none, .none] }) s.heap.objs.size q 0 .none := Heap.get?_push_size _ rfl
  exact ⟨⟨_, he, rfl⟩, h _ he fun b o x => Heap.get?_push_of_some _ x⟩
def iEnumZ (K : PySem.W.Frag) (ta : TA) : TI := fun σ H R => ta σ H fun vs H1 => ∃ a b xs ys, vs = [.ref a, .ref b] ∧ SqL K H1 a xs ∧ SqL K H1 b ys ∧ R (Itez K a b) H1
theorem pi_enumZ {X : Cx} {e e2 : Expr} {ta : TA} {p pz pos posz tpos : Pos} {elts : List Expr} {kk : Nat} (hg : Gl X "enumerate") (hm : X.mg "enumerate" = none) (hgz : Gl X "zip") (hmz : X.mg "zip" = none) (ha : PA X [e, e2] ta)
    (hs : starEach [e, e2] X.env = (false, eval e X.env) :: starEach [e2] X.env := by rfl) (hpl : (backTo posz (starEach [e2] X.env)).any (·.1) = false := by rfl)
    (hs2 : starEach [.Call (.Name "zip" pz) [e, e2] [] posz] X.env = [(false, eval (.Call (.Name "zip" pz) [e, e2] [] posz) X.env)] := by rfl) :
    PI X (.Tuple elts kk tpos) (.Call (.Name "enumerate" p) [.Call (.Name "zip" pz) [e, e2] [] posz] [] pos) (iEnumZ X.K ta) := by
  refine ⟨fun pins s σ H R I h => ?_⟩
  refine Call_ (ld_blt I hg hm boot_enumerate (PyProof.Rows.callWith_type1 ?_ hs2 rfl))
  rw [hs2]
  refine Calls.spliced_cons (thn (Q := fun v s1 => wpAny (model X.prog X.w) X.A (call (.type "enumerate") [v]) (fun v s1 => wpAny (model X.prog X.w) X.A (pyIter v) (PIE X pins σ (.Tuple elts kk tpos) R) X.xe s1) X.xe s1) ?_ fun v s1 hv => Calls.spliced_nil hv)
  refine Call_ (ld_blt I hgz hmz PyProof.Rows.boot_zip (PyProof.Rows.callWith_type1 (thn (ha.run posz pins s σ H _ I h) fun us s1 ⟨vs, H1, I1, r1, q1⟩ => ?_) hs hpl))
  obtain ⟨a, b, xs, ys, ex, hqx, hqy, k⟩ := q1
  subst ex
  cases r1 with
  | cons r rr =>
    cases rr with
    | cons r' rr =>
      cases rr
      cases r
      cases r'
      obtain ⟨its, rv, p1, _⟩ := I1.list hqx
      obtain ⟨its2, rv2, p2, _⟩ := I1.list hqy
      have la : a < s1.heap.objs.size := p1.lt
      have lb : b < s1.heap.objs.size := p2.lt
      refine call_zip_2 p1.isList p2.isList fun h' hz hTI hTO h1 h2 hsz hk => call_enumz (s := { s1 with heap := h' }) hz fun h'' he hk2 => wpAny_pyIter_enum he ?_
      replace he : IsEnum h'' h'.objs.size (s1.heap.objs.size + 4) 0 .none := he
      rw [hsz] at he
      have I2 : Inv X pins σ H1 { s1 with heap := h'' } := I1.kept (t' := s1.toks) fun c o y => hk2 c o (hk c o y)
      have ne : ∀ {m n : Nat}, m ≠ n → s1.heap.objs.size + m ≠ s1.heap.objs.size + n := fun d e => d (Nat.add_left_cancel e)
      refine ⟨s1.heap.objs.size + 5, [s1.heap.objs.size + 5, s1.heap.objs.size + 4, s1.heap.objs.size + 2, s1.heap.objs.size + 3, s1.heap.objs.size, s1.heap.objs.size + 1], _, _, H1, by show Value.ref h'.objs.size = _; rw [hsz], I2,
        turn_enumz (PySem.W.ktu_apart s1.heap.objs.size a b la lb) (ne (by decide)) (ne (by decide)) (ne (by decide)) (ne (n := 0) (by decide)) (ne (by decide)),
        ⟨⟨_, he⟩, .inl (hk2 _ _ hz), hk2 _ _ hTI, ⟨_, _, hk2 _ _ hTO⟩, h1.at fun o y => hk2 _ o y, h2.at fun o y => hk2 _ o y⟩, fun c hcm => ?_, k⟩
      have e' : c = s1.heap.objs.size + 5 ∨ c = s1.heap.objs.size + 4 ∨ c = s1.heap.objs.size + 2 ∨ c = s1.heap.objs.size + 3 ∨ c = s1.heap.objs.size ∨ c = s1.heap.objs.size + 1 := by simpa using hcm
      have hle : s1.heap.objs.size ≤ c := by
        rcases e' with z | z | z | z | z | z
        · rw [z]; exact Nat.le_add_right _ _
        · rw [z]; exact Nat.le_add_right _ _
        · rw [z]; exact Nat.le_add_right _ _
        · rw [z]; exact Nat.le_add_right _ _
        · rw [z]; exact Nat.le_refl _
        · rw [z]; exact Nat.le_add_right _ _
      exact I1.fpOk hle (I1.hok.fresh hle)
end Dear

namespace Du
open PySem PySem.Spec PyProof.Rows L2
section
variable {K : PySem.W.Frag} {xm : XMo} {X : Cx}
/-! ### enumerate(zip(list, list)) -/
def dEnumZ : List D → Res (List D)
  | [.lst as, .lst bs] => .ok (numbered 0 (pairs as bs))
  | _ => .bad
def iEnumZD (f : VEnv → Res (List D)) : VEnv → Res (List D) := fun ρ => (f ρ).bind dEnumZ
theorem Gr.thn {F1 H1 F2 H2 F3 H3 : Hp} (a : Gr F1 H1 F2 H2) (b : Gr F2 H2 F3 H3) : Gr F1 H1 F3 H3 := a.trans b
theorem yl_enumz {F : Hp} {a b : Addr} {xs ys : List V} {ds es : List D} (h : ∀ H, Same F H → SqL K H a xs) (h' : ∀ H, Same F H → SqL K H b ys) (d : DtAll K F xs ds) (e : DtAll K F ys es) : Yl K F (Dear.Itez K a b) (numbered 0 (pairs ds es)) := by
  have l := d.length
  have l' := e.length
  refine ⟨fun i H hi s => ⟨xs, ys, xs[i]'(by rw [numbered_len, pairs_len] at hi; omega), ys[i]'(by rw [numbered_len, pairs_len] at hi; omega), h H s, h' H s, by rw [List.getElem?_eq_getElem], by rw [List.getElem?_eq_getElem]⟩, fun i f F1 H x H' he s s1 y => ?_, fun H s => ⟨xs, ys, h H s, h' H s, by rw [numbered_len, pairs_len]; omega⟩⟩
  obtain ⟨Z, T, x, z, rfl, hZ, hTZ, hT, rfl, y, y'⟩ := y
  obtain ⟨pq, hpq, rfl⟩ := numbered_get he
  obtain ⟨p, q, hb, hb', rfl⟩ := pairs_get hpq
  obtain ⟨v, e1, e2⟩ := d.at hb
  obtain ⟨v', e1', e2'⟩ := e.at hb'
  have z1 := y xs (h H (s.trans s1))
  have z2 := y' ys (h' H (s.trans s1))
  rw [e1] at z1
  rw [e1'] at z2
  cases z1
  cases z2
  have w := sm_upd (o := .tup [x, z]) (s1.free hZ)
  have g1 := Gr.new (o := .tup [x, z]) s1 hZ
  have hT2 : upd H Z (.tup [x, z]) T = none := by rw [upd_ne hTZ]; exact hT
  have w2 := sm_upd (o := .tup [.int (i : Nat), .ref Z]) (g1.fh.free hT2)
  have dz : Dt K (upd F1 Z (.tup [x, z])) (.ref Z) (.tup [p, q]) := .tup upd_same (.cons ((e2.same s).same w) (.cons ((e2'.same s).same w) .nil))
  refine ⟨_, g1.thn (.new g1.fh hT2), .tup upd_same (.cons ?_ (.cons (dz.same w2) .nil))⟩
  rw [Nat.zero_add]
  exact .int _
theorem fi_enumZ {a b : Expr} {p pz pos posz tpos : Pos} {elts : List Expr} {kk : Nat} {f : VEnv → Res (List D)} (hm : X.mg "enumerate" = none) (hmz : X.mg "zip" = none) (h : FA K xm X [a, b] f) (h1 : ∀ ρ ds, f ρ = .ok ds → ds.length = 2) (hk : X.K = K := by rfl) (hg : Gl X "enumerate" := by rfl) (hgz : Gl X "zip" := by rfl)
    (hs : starEach [a, b] X.env = (false, eval a X.env) :: starEach [b] X.env := by rfl) (hpl : (backTo posz (starEach [b] X.env)).any (·.1) = false := by rfl)
    (hs2 : starEach [.Call (.Name "zip" pz) [a, b] [] posz] X.env = [(false, eval (.Call (.Name "zip" pz) [a, b] [] posz) X.env)] := by rfl) :
    FI K xm X (.Tuple elts kk tpos) (.Call (.Name "enumerate" p) [.Call (.Name "zip" pz) [a, b] [] posz] [] pos) (iEnumZD f) := by
  subst hk
  refine PI.to (Dear.pi_enumZ hg hm hgz hmz h hs hpl hs2) fun σ H R ⟨F, ρ, sF, vw, k⟩ => ?_
  unfold iEnumZD at k
  cases e : f ρ with
  | exc x => rw [e] at k; exact ⟨F, ρ, sF, vw, by rw [e]; exact k⟩
  | bad => rw [e] at k; exact k.elim
  | ok ds =>
    rw [e] at k
    refine ⟨F, ρ, sF, vw, ?_⟩
    rw [e]
    intro vs F1 H1 g1 d1
    match ds, h1 ρ ds e with
    | [d, c], _ =>
      obtain ⟨v, w, rfl, q, r⟩ := d1.two
      cases d with
      | lst ds =>
        cases c with
        | lst es =>
          obtain ⟨p, xs, rfl, h1, h2⟩ := q.lstE
          obtain ⟨p', ys, rfl, h3, h4⟩ := r.lstE
          exact ⟨p, p', xs, ys, rfl, SqL.of (g1.fh _ _ h1), SqL.of (g1.fh _ _ h3), k _ F1 H1 g1 (yl_enumz (fun H s => SqL.of (s _ _ h1)) (fun H s => SqL.of (s _ _ h3)) h2 h4)⟩
        | _ => exact k.elim
      | _ => exact k.elim
/-! ### zip(text, text) -/
def dZipS : List D → Res (List D)
  | [.str a, .str b] => if (a.cps.toList.all (fun c => decide (c < 128)) && b.cps.toList.all (fun c => decide (c < 128))) = true then .ok (pairs (signs a) (signs b)) else .bad
  | _ => .bad
def iZipSD (f : VEnv → Res (List D)) : VEnv → Res (List D) := fun ρ => (f ρ).bind dZipS
theorem signs_len (z : Str) : (signs z).length = z.cps.size := by unfold signs; rw [List.length_map, Array.length_toList]
theorem signs_get {z : Str} {i c : Nat} (h : z.cps[i]? = some c) : (signs z)[i]? = some (.str ⟨#[c]⟩) := by
  unfold signs
  rw [List.getElem?_map, Array.getElem?_toList, h]
  rfl
theorem yl_zipS {F : Hp} {x y : Str} : Yl K F (Dear.ItzS x y) (pairs (signs x) (signs y)) := by
  refine ⟨fun i H hi s => ?_, fun i f F1 H v H' he s s1 yv => ?_, fun H s => ?_⟩
  · rw [pairs_len, signs_len, signs_len] at hi
    exact ⟨by omega, by omega⟩
  · obtain ⟨T, c, d, rfl, hT, rfl, hc, hd⟩ := yv
    obtain ⟨p, q, hb, hb', rfl⟩ := pairs_get he
    rw [signs_get hc] at hb
    rw [signs_get hd] at hb'
    cases hb
    cases hb'
    exact ⟨_, .new s1 hT, .tup upd_same (.cons (.str _) (.cons (.str _) .nil))⟩
  · rw [pairs_len, signs_len, signs_len]
    exact ⟨by omega, by omega, by omega⟩
theorem fi_zipS {a b : Expr} {p pos tpos : Pos} {elts : List Expr} {kk : Nat} {f : VEnv → Res (List D)} (hm : X.mg "zip" = none) (h : FA K xm X [a, b] f) (h1 : ∀ ρ ds, f ρ = .ok ds → ds.length = 2) (hk : X.K = K := by rfl) (hg : Gl X "zip" := by rfl)
    (hs : starEach [a, b] X.env = (false, eval a X.env) :: starEach [b] X.env := by rfl) (hpl : (backTo pos (starEach [b] X.env)).any (·.1) = false := by rfl) : FI K xm X (.Tuple elts kk tpos) (.Call (.Name "zip" p) [a, b] [] pos) (iZipSD f) := by
  subst hk
  refine PI.to (Dear.pi_zipS hg hm h hs hpl) fun σ H R ⟨F, ρ, sF, vw, k⟩ => ?_
  unfold iZipSD at k
  cases e : f ρ with
  | exc x => rw [e] at k; exact ⟨F, ρ, sF, vw, by rw [e]; exact k⟩
  | bad => rw [e] at k; exact k.elim
  | ok ds =>
    rw [e] at k
    refine ⟨F, ρ, sF, vw, ?_⟩
    rw [e]
    intro vs F1 H1 g1 d1
    match ds, h1 ρ ds e with
    | [d, c], _ =>
      obtain ⟨v, w, rfl, q, r⟩ := d1.two
      cases d with
      | str x =>
        cases c with
        | str y =>
          have k' : Po (fun F' J ds => Yl X.K F' J ds) X.K xm σ F H (if (x.cps.toList.all (fun c => decide (c < 128)) && y.cps.toList.all (fun c => decide (c < 128))) = true then Res.ok (pairs (signs x) (signs y)) else .bad) R := k
          obtain ⟨f, k'⟩ := Po.ite k'
          rw [Bool.and_eq_true] at f
          have ax : ∀ {z : Str}, z.cps.toList.all (fun c => decide (c < 128)) = true → Dear.Asc z := fun h c hc => of_decide_eq_true (List.all_eq_true.mp h c hc)
          exact ⟨x, y, by rw [q.strE, r.strE], ax f.1, ax f.2, k' _ F1 H1 g1 yl_zipS⟩
        | _ => exact k.elim
      | _ => exact k.elim
/-! ### x.pop(i), x own -/
def popK (i : Nat) (d : D) (ρ : Env) : MO D := match d with
  | .int n => match ownL ρ i with
    | some (t, ds) => if inR n = true then match seqIndex? n ds.length with
      | some j => match ds[j]? with
        | some e => .ok e (ρ.set i (some (.own t (.lst (ds.eraseIdx j)))))
        | none => .bad
      | none => .bad else .bad
    | none => .bad
  | _ => .bad
def mPopAt (i : Nat) (m : Env → MO D) : Env → MO D := fun ρ => if (ownL ρ i).isSome = true then (m ρ).bind (popK i) else .bad
theorem DtAll.eraseIdx {F : Hp} {vs : List V} {ds : List D} (h : DtAll K F vs ds) (j : Nat) : DtAll K F (vs.eraseIdx j) (ds.eraseIdx j) := by
  rw [List.eraseIdx_eq_take_drop_succ, List.eraseIdx_eq_take_drop_succ]
  exact (h.take j).app (h.drop (j + 1))
theorem me_popAt {x : Str} {e : Expr} {m : Env → MO D} {p1 apos cpos : Pos} (i : Nat) (he : ME K xm X e m) (hN : X.N[i]? = some x := by rfl) (hv : Vis X.env.scope x := by first | exact Or.inl rfl | exact Or.inr (Or.inl rfl) | exact Or.inr (Or.inr rfl)) (hd : (x == ("__debug__" : Str)) = false := by decide)
    (hcd : (x == ("__classdict__" : Str)) = false := by decide) (hbase : attributeBase (.Name x p1) "pop" X.env (eval (.Name x p1) X.env) = eval (.Name x p1) X.env := by rfl)
    (hfew : ((backTo cpos (starEach [e] X.env)).all (fun x => !x.1) && (backToKw cpos (keywordEach [] X.env)).all (fun x => x.1.isSome) && decide (([e] : List Expr).length + ([] : List Keyword).length + (if ([] : List Keyword).isEmpty then 0 else 1) < 30)) = true := by rfl)
    (hline : (apos.endLine == cpos.line) = true := by rfl) (hs : starEach [e] X.env = (false, eval e X.env) :: starEach [] X.env := by rfl) (hplain : (backTo cpos (starEach [] X.env)).any (·.1) = false := by rfl) :
    ME K xm X (.Call (.Attribute (.Name x p1) "pop" apos) [e] [] cpos) (mPopAt i m) :=
  PE.to (pe_bm PySem.F.plainAttrs_list PySem.F.slot_list_pop PySem.F.type_list_pop mt_popAt (pv i hN hv hd hcd) (pa_cons he pa_nil hs) hbase hfew hline hs hplain) fun σ H Q ⟨B, ρ, F, r, k⟩ => by
    unfold mPopAt at k
    cases e1 : ownL ρ i with
    | none => rw [e1] at k; exact k.elim
    | some td =>
      rw [e1] at k
      obtain ⟨t, ds⟩ := td
      have k : Pm (RD K) K xm σ B F ((m ρ).bind (popK i)) Q := k
      obtain ⟨p, xs, q1, q2, q3, q4⟩ := r.ownAt (ownL_of e1)
      refine ⟨.ref p, q1, .inl ⟨rfl, _, SqL.of q2⟩, B, ρ, F, r, Pm.seq k fun d ρ1 v H1 F1 r1 s1 d1 k1 => ?_⟩
      cases d with
      | int n =>
        have k1 : Pm (RD K) K xm σ B F1 (match ownL ρ1 i with
          | some (t, ds) => if inR n = true then match seqIndex? n ds.length with
            | some j => match ds[j]? with
              | some e => .ok e (ρ1.set i (some (.own t (.lst (ds.eraseIdx j)))))
              | none => .bad
            | none => .bad else .bad
          | none => .bad) Q := k1
        cases e2 : ownL ρ1 i with
        | none => rw [e2] at k1; exact k1.elim
        | some td2 =>
          obtain ⟨t2, ds2⟩ := td2
          rw [e2] at k1
          dsimp only at k1
          obtain ⟨f, k1⟩ := Pm.ite k1
          have f1 := of_decide_eq_true f
          cases e3 : seqIndex? n ds2.length with
          | none => rw [e3] at k1; exact k1.elim
          | some j =>
            rw [e3] at k1
            dsimp only at k1
            cases e4 : ds2[j]? with
            | none => rw [e4] at k1; exact k1.elim
            | some y =>
              rw [e4] at k1
              obtain ⟨p', xs', w1, w2, w3, w4⟩ := r1.ownAt (ownL_of e2)
              rw [q1] at w1
              cases w1
              obtain ⟨u, u1, u2⟩ := w3.at e4
              have w := r1.write (ownL_of e2) q1 (o := .lst (xs'.eraseIdx j)) (d' := .lst (ds2.eraseIdx j)) ⟨_, upd_same, w3.eraseIdx j⟩
              exact ⟨p, xs', n, j, u, rfl, by rw [d1.intE], w2, by omega, by omega, by rw [w3.length]; exact e3, u1, k1 u _ F1 w (.refl _) u2⟩
      | _ => exact k1.elim
end
end Du

namespace Dear
open PySem PySem.Spec PyProof.Rows L2
/-! ### xs[a::s], s above nought -/
def pickD {α : Type} (xs : List α) (i c : Int) : List α := (sliceRange (sliceBounds (some i) none (some c) xs.length).1 (sliceBounds (some i) none (some c) xs.length).2.1 (sliceBounds (some i) none (some c) xs.length).2.2).filterMap (xs[·]?)
theorem Paired.at? {α β : Type} {F : α → β → Prop} : ∀ {l : List α} {m : List β}, Paired F l m → ∀ j : Nat, (l[j]? = none ∧ m[j]? = none) ∨ ∃ a b, l[j]? = some a ∧ m[j]? = some b ∧ F a b
  | _, _, .nil, j => .inl ⟨by simp, by simp⟩
  | _, _, .cons h t, 0 => .inr ⟨_, _, by simp, by simp, h⟩
  | _, _, .cons h t, j + 1 => by simpa using Paired.at? t j
theorem Paired.picks {α β : Type} {F : α → β → Prop} {l : List α} {m : List β} (h : Paired F l m) : ∀ js : List Nat, Paired F (js.filterMap (l[·]?)) (js.filterMap (m[·]?))
  | [] => .nil
  | j :: js => by
    rcases Paired.at? h j with ⟨h1, h2⟩ | ⟨a, b, h1, h2, h3⟩
    · rw [List.filterMap_cons_none h1, List.filterMap_cons_none h2]
      exact Paired.picks h js
    · rw [List.filterMap_cons_some h1, List.filterMap_cons_some h2]
      exact .cons h3 (Paired.picks h js)
def tSlS (K : PySem.W.Frag) (te tl ts : TE) : TE := fun σ H Q => te σ H fun x H1 => tPart tl σ H1 fun l H2 => tPart ts σ H2 fun o H3 => ∃ (a : Addr) (xs : List V) (i c : Int), x = .ref a ∧ l = some i ∧ o = some c ∧ 0 < c ∧ SqL K H3 a xs ∧ ∀ p, H3 p = none → Q (.ref p) (upd H3 p (.lst (pickD xs i c)))
theorem pick_of (its : List Value) (i c : Int) : slicePick its.toArray (some i) none (some c) = (pickD its i c).toArray := by
  unfold slicePick pickD
  rw [List.size_toArray]
  congr 1
  congr 1
  funext k
  simp
theorem pickD_len {α : Type} {xs : List α} {ys : List Value} (h : xs.length = ys.length) (i c : Int) (e : (pickD xs i c).length = (pickD ys i c).length) : (pickD xs i c).length ≤ xs.length := by
  have := slicePick_size_le ys.toArray (some i) none (some c)
  rw [pick_of, List.size_toArray, List.size_toArray] at this
  omega
theorem pe_slS {X : Cx} (K : PySem.W.Frag) {e lo st : Expr} {te tl ts : TE} {p3 pos : Pos} (he : PE X e te) (hl : PE X lo tl) (hs : PE X st ts) (hk : X.K = K := by rfl) : PE X (.Subscript e (.Slice (some lo) none (some st) p3) pos) (tSlS K te tl ts) := by
  subst hk
  refine ⟨fun pins s σ H Q I h => ?_⟩
  refine Subscript_ (thn (he.run pins s σ H _ I h) fun v s1 ⟨x, H1, I1, r1, q1⟩ => ?_)
  have hlo : PO X (some lo) (tPart tl) := po_some hl
  have hst : PO X (some st) (tPart ts) := po_some hs
  refine wpAny_Slice (thn (hlo.run pins s1 σ H1 _ I1 q1) fun vl s2 ⟨l, H2, I2, pl, q2⟩ => ?_)
  refine thn (po_none.run pins s2 σ H2 (fun o H3 => o = none ∧ H3 = H2) I2 ⟨rfl, rfl⟩) fun vu s3 ⟨u, H3, I3, pu, eu, e3⟩ => ?_
  subst eu e3
  refine thn (hst.run pins s3 σ H3 _ I3 q2) fun vs s4 ⟨o, H4, I4, ps, a, xs, i, c, ex, el, eo, hc, hx, q⟩ => ?_
  subst ex el eo
  cases r1
  have I5 : Inv X pins σ H4 { s4 with heap := s4.heap.push { cls := .type "slice", data := .fields #[vl, vu, vs] } } := I4.kept (t' := s4.toks) fun b ob q => Heap.get?_push_of_some _ q
  obtain ⟨its, r, ht, hz⟩ := I5.list hx
  have hlen := r.length
  show wpAny (model X.prog X.w) X.A (subscriptTail e (.Slice (some lo) none (some st) p3) (.ref a) (.ref s4.heap.objs.size)) (EP X pins σ Q) X.xe { s4 with heap := s4.heap.push { cls := .type "slice", data := .fields #[vl, vu, vs] } }
  refine tail_any (ops := [.ref a, .ref s4.heap.objs.size]) ht.isList.typeIs (PySem.slot_list_getitem.lookup) ?_ (by with_unfolding_all rfl)
  refine wpAny_getItem_list_slice ht.isList (Heap.IsSliceOf.new _ vl vu vs) pl pu ps (by intro z; cases z; omega) ?_ (by rw [List.size_toArray]; omega)
  rw [pick_of]
  have rp : Vals (pickD xs i c) (pickD its i c) := by
    unfold pickD
    rw [← hlen]
    exact Paired.picks r _
  refine ⟨.ref _, _, I5.laid (t' := s4.toks) (o := .lst (pickD xs i c)) (fun b ob q => Heap.get?_push_of_some _ q) (Nat.le_refl _) ?_, rfl, q _ (I5.hok.fresh (Nat.le_refl _))⟩
  exact ⟨by have := pickD_len hlen i c rp.length; omega, _, 0, rp, Heap.get?_push_size _ rfl⟩
end Dear
namespace Du
open PySem PySem.Spec PyProof.Rows L2
section
variable {K : PySem.W.Frag} {xm : XMo} {X : Cx}
def eSlS (fe fl fs : VEnv → Res D) : VEnv → Res D := fun ρ => (fe ρ).bind fun a => (fl ρ).bind fun l => match l with
  | .int i => (fs ρ).bind fun s => match a, s with
    | .lst ds, .int c => if decide (0 < c) = true then .ok (.lst (Dear.pickD ds i c)) else .bad
    | _, _ => .bad
  | _ => .bad
theorem DtAll.at? {F : Hp} {vs : List V} {ds : List D} (h : DtAll K F vs ds) (j : Nat) : (vs[j]? = none ∧ ds[j]? = none) ∨ ∃ v d, vs[j]? = some v ∧ ds[j]? = some d ∧ Dt K F v d := by
  cases e : vs[j]? with
  | none =>
    refine .inl ⟨rfl, ?_⟩
    rw [List.getElem?_eq_none_iff] at e ⊢
    rw [← h.length]
    exact e
  | some v =>
    obtain ⟨d, h1, h2⟩ := h.get e
    exact .inr ⟨v, d, rfl, h1, h2⟩
theorem DtAll.picks {F : Hp} {vs : List V} {ds : List D} (h : DtAll K F vs ds) : ∀ js : List Nat, DtAll K F (js.filterMap (vs[·]?)) (js.filterMap (ds[·]?))
  | [] => .nil
  | j :: js => by
    rcases h.at? j with ⟨h1, h2⟩ | ⟨a, b, h1, h2, h3⟩
    · rw [List.filterMap_cons_none h1, List.filterMap_cons_none h2]
      exact DtAll.picks h js
    · rw [List.filterMap_cons_some h1, List.filterMap_cons_some h2]
      exact .cons h3 (DtAll.picks h js)
theorem fe_slS {e lo st : Expr} {fe fl fs : VEnv → Res D} {p3 pos : Pos} (he : FE K xm X e fe) (hl : FE K xm X lo fl) (hs : FE K xm X st fs) (hk : X.K = K := by rfl) : FE K xm X (.Subscript e (.Slice (some lo) none (some st) p3) pos) (eSlS fe fl fs) :=
  PE.to (Dear.pe_slS K he hl hs hk) fun σ H Q ⟨F, ρ, sF, vw, k⟩ => ⟨F, ρ, sF, vw, Po.seq k fun a x F1 H1 g1 d1 k1 => ⟨F1, ρ, g1.fh, vw.same g1.ff, Po.seq k1 fun l v F2 H2 g2 d2 k2 => by
    have vw2 := (vw.same g1.ff).same g2.ff
    cases l with
    | int i =>
      refine ⟨i, d2.intE, F2, ρ, g2.fh, vw2, Po.seq k2 fun s w F3 H3 g3 d3 k3 => ?_⟩
      cases s with
      | int c =>
        refine ⟨c, d3.intE, ?_⟩
        cases a with
        | lst ds =>
          have k3 : Po (RD K) K xm σ F3 H3 (if decide (0 < c) = true then Res.ok (.lst (Dear.pickD ds i c)) else .bad) Q := k3
          obtain ⟨hc, k3⟩ := Po.ite k3
          obtain ⟨p, xs, rfl, h1, h2⟩ := ((d1.same g2.ff).same g3.ff).lstE
          refine ⟨p, xs, i, c, rfl, rfl, rfl, of_decide_eq_true hc, SqL.of (g3.fh _ _ h1), fun q hq => k3.new g3.fh hq (.lst upd_same ?_)⟩
          have := h2.length
          unfold Dear.pickD
          rw [← this]
          exact (h2.picks _).same (sm_upd (g3.fh.free hq))
        | _ => exact k3.elim
      | _ => cases a <;> exact k3.elim
    | _ => exact k2.elim⟩⟩
end
end Du

namespace Du
open PySem PySem.Spec PyProof.Rows L2
/-! ### a def that the text calls by another name -/
section
variable {P : Program} {w : World} {K : PySem.W.Frag} {mg : Str → Option Value} {base : Heap}
theorem okA0 {y x : Str} {st : Stmt} {N ps : List Str} {k : Nat} {g : Env → Out} (D : Dear.DfA K mg y x st ps) (S : FnScope N ps (defScope st))
    (body : ∀ (f : Addr) (cdv : Value) (A : Around) (outer : List PySem.Env) (s : Shared) (H : Hp) (E : XK), Room k (A.deeper (envOfC x (defScope st) s.heap.objs.size f cdv)) → FSs K none (cxOf CX0 P w K mg base N x (defScope st) f cdv A outer s H E).nox (defBody st) g)
    (hN : ps.length ≤ N.length := by decide) : Dear.OkF P w K mg base CX0 (k + 1) y ps (sp0 K (runD ps.length N.length g)) :=
  D.ok S (fun vs H Q E h => sp0_len (f := runD ps.length N.length g) h) fun f cdv A outer s H vs Q E hr h => ⟨_, body f cdv A outer s H E hr, by
    obtain ⟨ds, G, sG, hd, d, e, q⟩ := h
    unfold runD at e
    by_cases hn : ds.length = ps.length
    · rw [if_pos hn] at e
      refine ⟨⟨H, G, 0⟩, _, G, Rl.start sG hd hn hN, ?_⟩
      unfold outR at e
      cases e2 : g (ent N.length ps.length ds) with
      | nx ρ =>
        rw [e2] at e
        cases e
        intro σ' H' F' r
        obtain ⟨G', g1, d1⟩ := r.done sG
        exact q _ _ _ g1 .non
      | rt d' ρ =>
        rw [e2] at e
        cases e
        intro v σ' H' F' r dv
        obtain ⟨G', g1, d1⟩ := r.done sG
        exact q _ _ _ g1 (dv.same d1)
      | ro d' ρ =>
        rw [e2] at e
        cases e
        intro p σ' H' F' r fp bp ow
        obtain ⟨G', g1, d1⟩ := r.freeze sG fp bp ow
        exact q _ _ _ g1 d1
      | bk ρ => rw [e2] at e; cases e
      | ct ρ => rw [e2] at e; cases e
      | ex x ρ => rw [e2] at e; cases e
      | bad => rw [e2] at e; cases e
    · rw [if_neg hn] at e
      cases e⟩
end
end Du

namespace Dear
open PySem PySem.Spec PyProof.Rows L2
/-! ### xs <= ys, lists of whole numbers -/
def lexLe : List Int → List Int → Bool
  | [], _ => true
  | _ :: _, [] => false
  | x :: xs, y :: ys => if x = y then lexLe xs ys else decide (x ≤ y)
def rLeL (K : PySem.W.Frag) : R2 := fun x y H Q => ∃ (a b : Addr) (ns ms : List Int), x = .ref a ∧ y = .ref b ∧ SqL K H a (ns.map V.int) ∧ SqL K H b (ms.map V.int) ∧ Q (.bl (lexLe ns ms)) H
theorem first_lex : ∀ (k i : Nat) (ns ms : List Int), i + k = min ns.length ms.length →
    PySem.SeqAt.firstLt (fun j => decide (ns.getD j 0 = ms.getD j 0)) (fun j => decide (ns.getD j 0 ≤ ms.getD j 0)) (decide (ns.length ≤ ms.length)) (List.range' i k) = lexLe (ns.drop i) (ms.drop i)
  | 0, i, ns, ms, e => by
    show decide (ns.length ≤ ms.length) = _
    by_cases h : ns.length ≤ ms.length
    · rw [decide_eq_true h, List.drop_of_length_le (show ns.length ≤ i by omega)]
      cases ms.drop i <;> rfl
    · rw [decide_eq_false h, List.drop_of_length_le (show ms.length ≤ i by omega), List.drop_eq_getElem_cons (show i < ns.length by omega)]
      rfl
  | k + 1, i, ns, ms, e => by
    have h1 : i < ns.length := by omega
    have h2 : i < ms.length := by omega
    have ih := first_lex k (i + 1) ns ms (by omega)
    rw [List.range'_succ]
    show (if decide (ns.getD i 0 = ms.getD i 0) = true then _ else decide (ns.getD i 0 ≤ ms.getD i 0)) = _
    rw [ih, List.drop_eq_getElem_cons h1, List.drop_eq_getElem_cons h2]
    have g1 : ns.getD i 0 = ns[i] := by simp [List.getD, h1]
    have g2 : ms.getD i 0 = ms[i] := by simp [List.getD, h2]
    rw [g1, g2]
    show _ = if ns[i] = ms[i] then lexLe (ns.drop (i + 1)) (ms.drop (i + 1)) else decide (ns[i] ≤ ms[i])
    by_cases h : ns[i] = ms[i]
    · rw [if_pos h, if_pos (decide_eq_true h)]
    · rw [if_neg h, if_neg (by simpa using h)]
theorem op_leL {X : Cx} (hu : X.A.units < cLine) : OpR X (compareOp .LtE) (rLeL X.K) := by
  intro pins s σ H x y v u Q I rx ry h
  obtain ⟨a, b, ns, ms, rfl, rfl, ha, hb, q⟩ := h
  cases rx
  cases ry
  obtain ⟨its, r1, p1, _⟩ := I.list ha
  obtain ⟨its2, r2, p2, _⟩ := I.list hb
  have i1 : IntsAre its ns := Vals.ints r1
  have i2 : IntsAre its2 ms := Vals.ints r2
  have e1 : its.toArray.size = ns.length := by rw [List.size_toArray]; exact i1.length
  have e2 : its2.toArray.size = ms.length := by rw [List.size_toArray]; exact i2.length
  have at1 : ∀ j (h1 : j < its.toArray.size), ∃ t, its.toArray[j] = .int (ns.getD j 0) t := fun j h1 => PyProof.Rows.IntsAre.int_at i1 _ _ (by simp at h1; simp [h1])
  have at2 : ∀ j (h1 : j < its2.toArray.size), ∃ t, its2.toArray[j] = .int (ms.getD j 0) t := fun j h1 => PyProof.Rows.IntsAre.int_at i2 _ _ (by simp at h1; simp [h1])
  have R := PySem.SeqAt.RcOp.lists_le (A := X.A) (s := s) (e := fun j => decide (ns.getD j 0 = ms.getD j 0)) (r := fun j => decide (ns.getD j 0 ≤ ms.getD j 0)) p1.isList p2.isList hu (fun j h1 h2 => by
    obtain ⟨t, et⟩ := at1 j h1
    obtain ⟨t', et'⟩ := at2 j h2
    rw [et, et']
    have z : (ns.getD j 0 == ms.getD j 0) = decide (ns.getD j 0 = ms.getD j 0) := by
      by_cases q : ns.getD j 0 = ms.getD j 0
      · rw [decide_eq_true q]; exact beq_iff_eq.mpr q
      · rw [decide_eq_false q]; exact beq_eq_false_iff_ne.mpr q
    rw [← z]
    exact SeqAt.EqAt.int_int _ _ _ _) (fun j h1 h2 _ => by
    obtain ⟨t, et⟩ := at1 j h1
    obtain ⟨t', et'⟩ := at2 j h2
    rw [et, et']
    exact fun _ _ _ _ h => PyProof.Rows.le_int h)
  rw [e1, e2] at R
  have fe := first_lex (min ns.length ms.length) 0 ns ms (by omega)
  rw [← List.range_eq_range', List.drop_zero, List.drop_zero] at fe
  rw [fe] at R
  have z : wpAny (model X.prog X.w) X.A (compareOp .LtE (.ref a) (.ref b)) (EP X pins σ Q) X.xe s := R X.prog X.w X.xe (EP X pins σ Q) ⟨.bl _, H, I, rfl, q⟩
  exact z
end Dear
namespace Du
open PySem PySem.Spec PyProof.Rows L2
section
variable {K : PySem.W.Frag} {xm : XMo} {X : Cx}
def intsD : List D → Option (List Int)
  | [] => some []
  | .int i :: ds => (intsD ds).map (i :: ·)
  | _ :: _ => none
theorem intsD_of : ∀ {ds : List D} {ns : List Int}, intsD ds = some ns → ds = ns.map D.int
  | [], ns, h => by cases h; rfl
  | .int i :: ds, ns, h => by
    have h : (intsD ds).map (i :: ·) = some ns := h
    obtain ⟨ms, h1, h2⟩ := Option.map_eq_some_iff.mp h
    rw [← h2, intsD_of h1]
    rfl
theorem intsD_map : ∀ ns : List Int, intsD (ns.map D.int) = some ns
  | [] => rfl
  | n :: ns => by
    show (intsD (ns.map D.int)).map (n :: ·) = _
    rw [intsD_map ns]
    rfl
def dLeX : D → D → Res D
  | .int a, .int b => .ok (.bl (decide (a ≤ b)))
  | .lst as, .lst bs => match intsD as, intsD bs with
    | some ns, some ms => .ok (.bl (Dear.lexLe ns ms))
    | _, _ => .bad
  | _, _ => .bad
def rLeX (K : PySem.W.Frag) : R2 := fun x y H Q => rI0 (fun i j => .bl (decide (i ≤ j))) x y H Q ∨ Dear.rLeL K x y H Q
theorem op_leX (hu : X.A.units < cLine) (h : X.K = K := by rfl) : OpR X (compareOp .LtE) (rLeX K) := OpR.or op_le (h ▸ Dear.op_leL hu)
theorem opd_leX : OpD K (rLeX K) dLeX := by
  intro xm σ F H x y a b Q s hx hy k
  unfold dLeX at k
  split at k
  · rw [hx.intE, hy.intE]
    exact .inl ⟨_, _, rfl, rfl, k.done s (.bl _)⟩
  · rename_i as bs
    split at k
    · rename_i ns ms e1 e2
      obtain ⟨p, xs, rfl, h1, h2⟩ := hx.lstE
      obtain ⟨q, ys, rfl, h3, h4⟩ := hy.lstE
      rw [intsD_of e1] at h2
      rw [intsD_of e2] at h4
      rw [h2.intsE] at h1
      rw [h4.intsE] at h3
      exact .inr ⟨p, q, ns, ms, rfl, rfl, SqL.of (s _ _ h1), SqL.of (s _ _ h3), k.done s (.bl _)⟩
    · exact k.elim
  · exact k.elim
theorem gb_leX : ∀ x y d, dLeX x y = .ok d → ∃ b, d = .bl b := fun x y d h => by
  unfold dLeX at h
  split at h
  · cases h; exact ⟨_, rfl⟩
  · split at h
    · cases h; exact ⟨_, rfl⟩
    · cases h
  · cases h
end
end Du

namespace Dear
open PySem PySem.Spec PyProof.Rows L2
def top (i : Nat) : Stmt := PySem.Challenge.pw_dearsigns_k15_trees_of_books.main.body.getD i (.Pass ⟨0, 0, 0, 0⟩)
abbrev s_NoTongue___init__ : Stmt := inClass (top 2) 0
abbrev s_is_whole : Stmt := top 4
abbrev s_divisor : Stmt := top 5
abbrev s_is_fraction : Stmt := top 6
abbrev s_is_price : Stmt := top 12
abbrev s_is_letter : Stmt := top 13
abbrev s_is_sign : Stmt := top 14
abbrev s_are_signs : Stmt := top 15
abbrev s_are_unlike_texts : Stmt := top 16
abbrev s_look_at_tongue : Stmt := top 17
abbrev s_grown : Stmt := top 19
abbrev s_tree_of : Stmt := top 20
abbrev s__law_cell : Stmt := top 22
abbrev s__law_source : Stmt := top 23
abbrev s__law_draw : Stmt := top 24
abbrev s__law_lowest : Stmt := top 25
abbrev s__law_price : Stmt := top 26
abbrev s__law_signs : Stmt := top 27
abbrev s__law_tongue : Stmt := top 28
abbrev s__law_copy : Stmt := top 29
abbrev s__law_comes : Stmt := top 30
abbrev s__law_stands : Stmt := top 31
abbrev s__law_is_word : Stmt := top 32
abbrev s__law_words : Stmt := top 33
abbrev s__law_clashes : Stmt := top 34
abbrev s__law_world : Stmt := top 35
abbrev s__law_read : Stmt := top 36
abbrev s__law_empty : Stmt := top 37
abbrev s__law_right : Stmt := top 38
abbrev s_law : Stmt := top 39
abbrev n_NoTongue___init__ : List Str := ["self", "part"]
theorem c_NoTongue___init__ : FnScope n_NoTongue___init__ ["self", "part"] (defScope s_NoTongue___init__) := ⟨rfl, rfl, rfl, by decide +kernel, rfl, by decide +kernel, by decide +kernel⟩
abbrev n_is_whole : List Str := ["thing"]
theorem c_is_whole : FnScope n_is_whole ["thing"] (defScope s_is_whole) := ⟨rfl, rfl, rfl, by decide +kernel, rfl, by decide +kernel, by decide +kernel⟩
abbrev n_divisor : List Str := ["one", "other"]
theorem c_divisor : FnScope n_divisor ["one", "other"] (defScope s_divisor) := ⟨rfl, rfl, rfl, by decide +kernel, rfl, by decide +kernel, by decide +kernel⟩
abbrev n_is_fraction : List Str := ["thing", "top", "bottom"]
theorem c_is_fraction : FnScope n_is_fraction ["thing"] (defScope s_is_fraction) := ⟨rfl, rfl, rfl, by decide +kernel, rfl, by decide +kernel, by decide +kernel⟩
abbrev n_is_price : List Str := ["thing"]
theorem c_is_price : FnScope n_is_price ["thing"] (defScope s_is_price) := ⟨rfl, rfl, rfl, by decide +kernel, rfl, by decide +kernel, by decide +kernel⟩
abbrev n_is_letter : List Str := ["thing"]
theorem c_is_letter : FnScope n_is_letter ["thing"] (defScope s_is_letter) := ⟨rfl, rfl, rfl, by decide +kernel, rfl, by decide +kernel, by decide +kernel⟩
abbrev n_is_sign : List Str := ["thing", "sign", "price", "last"]
theorem c_is_sign : FnScope n_is_sign ["thing"] (defScope s_is_sign) := ⟨rfl, rfl, rfl, by decide +kernel, rfl, by decide +kernel, by decide +kernel⟩
abbrev n_are_signs : List Str := ["thing", "one"]
theorem c_are_signs : FnScope n_are_signs ["thing"] (defScope s_are_signs) := ⟨rfl, rfl, rfl, by decide +kernel, rfl, by decide +kernel, by decide +kernel⟩
abbrev n_are_unlike_texts : List Str := ["thing", "size", "letters", "at", "one", "sign"]
theorem c_are_unlike_texts : FnScope n_are_unlike_texts ["thing", "size", "letters"] (defScope s_are_unlike_texts) := ⟨rfl, rfl, rfl, by decide +kernel, rfl, by decide +kernel, by decide +kernel⟩
abbrev n_look_at_tongue : List Str := ["thing", "signs", "firsts", "pairs", "longest", "letters", "one"]
theorem c_look_at_tongue : FnScope n_look_at_tongue ["thing"] (defScope s_look_at_tongue) := ⟨rfl, rfl, rfl, by decide +kernel, rfl, by decide +kernel, by decide +kernel⟩
abbrev n_grown : List Str := ["letters", "ends", "found", "sign", "some", "rest", "number"]
theorem c_grown : FnScope n_grown ["letters", "ends"] (defScope s_grown) := ⟨rfl, rfl, rfl, by decide +kernel, rfl, by decide +kernel, by decide +kernel⟩
abbrev n_tree_of : List Str := ["tongue", "book", "letters", "one", "number", "word"]
theorem c_tree_of : FnScope n_tree_of ["tongue", "book"] (defScope s_tree_of) := ⟨rfl, rfl, rfl, by decide +kernel, rfl, by decide +kernel, by decide +kernel⟩
abbrev n__law_cell : List Str := ["_law_script", "_law_k"]
theorem c__law_cell : FnScope n__law_cell ["_law_script", "_law_k"] (defScope s__law_cell) := ⟨rfl, rfl, rfl, by decide +kernel, rfl, by decide +kernel, by decide +kernel⟩
abbrev n__law_source : List Str := ["_law_cell_here", "_law_k", "_law_number", "_law_seed"]
theorem c__law_source : FnScope n__law_source ["_law_cell_here", "_law_k"] (defScope s__law_source) := ⟨rfl, rfl, rfl, by decide +kernel, rfl, by decide +kernel, by decide +kernel⟩
abbrev n__law_draw : List Str := ["_law_source_here", "_law_many", "_law_digit"]
theorem c__law_draw : FnScope n__law_draw ["_law_source_here", "_law_many"] (defScope s__law_draw) := ⟨rfl, rfl, rfl, by decide +kernel, rfl, by decide +kernel, by decide +kernel⟩
abbrev n__law_lowest : List Str := ["_law_top", "_law_bottom", "_law_one", "_law_other"]
theorem c__law_lowest : FnScope n__law_lowest ["_law_top", "_law_bottom"] (defScope s__law_lowest) := ⟨rfl, rfl, rfl, by decide +kernel, rfl, by decide +kernel, by decide +kernel⟩
abbrev n__law_price : List Str := ["_law_source_here", "_law_way", "_law_wide", "_law_top"]
theorem c__law_price : FnScope n__law_price ["_law_source_here"] (defScope s__law_price) := ⟨rfl, rfl, rfl, by decide +kernel, rfl, by decide +kernel, by decide +kernel⟩
abbrev n__law_signs : List Str := ["_law_source_here", "_law_many", "_law_letters", "_law_start", "_law_step", "_law_signs_here", "_law_k", "_law_price_here", "_law_last", "_law_way"]
theorem c__law_signs : FnScope n__law_signs ["_law_source_here", "_law_many"] (defScope s__law_signs) := ⟨rfl, rfl, rfl, by decide +kernel, rfl, by decide +kernel, by decide +kernel⟩
abbrev n__law_tongue : List Str := ["_law_script", "_law_base", "_law_most", "_law_longs", "_law_source_here", "_law_many", "_law_signs_here", "_law_names", "_law_longest", "_law_rare", "_law_firsts", "_law_pairs", "_law_one", "_law_sign", "_law_other"]
theorem c__law_tongue : FnScope n__law_tongue ["_law_script", "_law_base", "_law_most", "_law_longs"] (defScope s__law_tongue) := ⟨rfl, rfl, rfl, by decide +kernel, rfl, by decide +kernel, by decide +kernel⟩
abbrev n__law_copy : List Str := ["_law_tongue_here"]
theorem c__law_copy : FnScope n__law_copy ["_law_tongue_here"] (defScope s__law_copy) := ⟨rfl, rfl, rfl, by decide +kernel, rfl, by decide +kernel, by decide +kernel⟩
abbrev n__law_comes : List Str := ["_law_tongue_here", "_law_ahead", "_law_sign"]
theorem c__law_comes : FnScope n__law_comes ["_law_tongue_here", "_law_ahead", "_law_sign"] (defScope s__law_comes) := ⟨rfl, rfl, rfl, by decide +kernel, rfl, by decide +kernel, by decide +kernel⟩
abbrev n__law_stands : List Str := ["_law_tongue_here", "_law_thing", "_law_names", "_law_k", "_law_one"]
theorem c__law_stands : FnScope n__law_stands ["_law_tongue_here", "_law_thing"] (defScope s__law_stands) := ⟨rfl, rfl, rfl, by decide +kernel, rfl, by decide +kernel, by decide +kernel⟩
abbrev n__law_is_word : List Str := ["_law_tongue_here", "_law_thing", "_law_sign", "_law_price_here", "_law_last"]
theorem c__law_is_word : FnScope n__law_is_word ["_law_tongue_here", "_law_thing"] (defScope s__law_is_word) := ⟨rfl, rfl, rfl, by decide +kernel, rfl, by decide +kernel, by decide +kernel⟩
abbrev n__law_words : List Str := ["_law_tongue_here", "_law_level", "_law_found", "_law_length", "_law_longer", "_law_text", "_law_one"]
theorem c__law_words : FnScope n__law_words ["_law_tongue_here"] (defScope s__law_words) := ⟨rfl, rfl, rfl, by decide +kernel, rfl, by decide +kernel, by decide +kernel⟩
abbrev n__law_clashes : List Str := ["_law_book", "_law_word", "_law_one"]
theorem c__law_clashes : FnScope n__law_clashes ["_law_book", "_law_word"] (defScope s__law_clashes) := ⟨rfl, rfl, rfl, by decide +kernel, rfl, by decide +kernel, by decide +kernel⟩
abbrev n__law_world : List Str := ["_law_script", "_law_tongue_here", "_law_words_here", "_law_book", "_law_k", "_law_source_here", "_law_near", "_law_word", "_law_sign", "_law_price_here", "_law_last"]
theorem c__law_world : FnScope n__law_world ["_law_script"] (defScope s__law_world) := ⟨rfl, rfl, rfl, by decide +kernel, rfl, by decide +kernel, by decide +kernel⟩
abbrev n__law_read : List Str := ["_law_names", "_law_thing", "_law_begin", "_law_found", "_law_last", "_law_branch"]
theorem c__law_read : FnScope n__law_read ["_law_names", "_law_thing", "_law_begin", "_law_found"] (defScope s__law_read) := ⟨rfl, rfl, rfl, by decide +kernel, rfl, by decide +kernel, by decide +kernel⟩
abbrev n__law_empty : List Str := ["_law_thing", "_law_sign", "_law_node"]
theorem c__law_empty : FnScope n__law_empty ["_law_thing"] (defScope s__law_empty) := ⟨rfl, rfl, rfl, by decide +kernel, rfl, by decide +kernel, by decide +kernel⟩
abbrev n__law_right : List Str := ["_law_tongue_here", "_law_book", "_law_names", "_law_turn", "_law_handed", "_law_told", "_law_found", "_law_one", "_law_number", "_law_word"]
theorem c__law_right : FnScope n__law_right ["_law_tongue_here", "_law_book"] (defScope s__law_right) := ⟨rfl, rfl, rfl, by decide +kernel, rfl, by decide +kernel, by decide +kernel⟩
abbrev n_law : List Str := ["_law_script", "_law_tongue_here", "_law_book", "_law_kept"]
theorem c_law : FnScope n_law ["_law_script"] (defScope s_law) := ⟨rfl, rfl, rfl, by decide +kernel, rfl, by decide +kernel, by decide +kernel⟩
structure Ads where
  DearError : Addr
  NoTongue : Addr
/-- what the top has left -/
structure Txt (K : PySem.W.Frag) (mg : Str → Option Value) where
  A : Ads
  C_DearError : mg "DearError" = some (.ref A.DearError)
  C_NoTongue : mg "NoTongue" = some (.ref A.NoTongue)
  q_NoTongue_DearError : PySem.W.kitOne K (.ref A.NoTongue) (.ref A.DearError) = some true
  q_NoTongue_NoTongue : PySem.W.kitOne K (.ref A.NoTongue) (.ref A.NoTongue) = some true
  q_NoTongue_ValueError : PySem.W.kitOne K (.ref A.NoTongue) (.type "ValueError") = some true
  m_NoTongue : PySem.W.exmOne K (.ref A.NoTongue) (.ref A.DearError) = some true
  f_is_whole : Df K mg "is_whole" s_is_whole ["thing"]
  f_divisor : Df K mg "divisor" s_divisor ["one", "other"]
  f_is_fraction : Df K mg "is_fraction" s_is_fraction ["thing"]
  f_is_price : Df K mg "is_price" s_is_price ["thing"]
  f_is_letter : Df K mg "is_letter" s_is_letter ["thing"]
  f_is_sign : Df K mg "is_sign" s_is_sign ["thing"]
  f_are_signs : Df K mg "are_signs" s_are_signs ["thing"]
  f_are_unlike_texts : Df K mg "are_unlike_texts" s_are_unlike_texts ["thing", "size", "letters"]
  f_look_at_tongue : Df K mg "look_at_tongue" s_look_at_tongue ["thing"]
  f_grown : Df K mg "grown" s_grown ["letters", "ends"]
  f_tree_of : Df K mg "tree_of" s_tree_of ["tongue", "book"]
  f__law_cell : Df K mg "_law_cell" s__law_cell ["_law_script", "_law_k"]
  f__law_source : Df K mg "_law_source" s__law_source ["_law_cell_here", "_law_k"]
  f__law_draw : Df K mg "_law_draw" s__law_draw ["_law_source_here", "_law_many"]
  f__law_lowest : Df K mg "_law_lowest" s__law_lowest ["_law_top", "_law_bottom"]
  f__law_price : Df K mg "_law_price" s__law_price ["_law_source_here"]
  f__law_signs : Df K mg "_law_signs" s__law_signs ["_law_source_here", "_law_many"]
  f__law_tongue : Df K mg "_law_tongue" s__law_tongue ["_law_script", "_law_base", "_law_most", "_law_longs"]
  f__law_copy : Df K mg "_law_copy" s__law_copy ["_law_tongue_here"]
  f__law_comes : Df K mg "_law_comes" s__law_comes ["_law_tongue_here", "_law_ahead", "_law_sign"]
  f__law_stands : Df K mg "_law_stands" s__law_stands ["_law_tongue_here", "_law_thing"]
  f__law_is_word : Df K mg "_law_is_word" s__law_is_word ["_law_tongue_here", "_law_thing"]
  f__law_words : Df K mg "_law_words" s__law_words ["_law_tongue_here"]
  f__law_clashes : Df K mg "_law_clashes" s__law_clashes ["_law_book", "_law_word"]
  f__law_world : Df K mg "_law_world" s__law_world ["_law_script"]
  f__law_read : Df K mg "_law_read" s__law_read ["_law_names", "_law_thing", "_law_begin", "_law_found"]
  f__law_empty : Df K mg "_law_empty" s__law_empty ["_law_thing"]
  f__law_right : Df K mg "_law_right" s__law_right ["_law_tongue_here", "_law_book"]
  f_law : Df K mg "law" s_law ["_law_script"]
  g_LETTERS : ∃ t, mg "LETTERS" = some (.str "abcdefghijklmnopqrstuvwxyz" t)
  g_FEWEST_SIGNS : ∃ t, mg "FEWEST_SIGNS" = some (.int 2 t)
  g_MOST_SIGNS : ∃ t, mg "MOST_SIGNS" = some (.int 6 t)
  g_LONGEST : ∃ t, mg "LONGEST" = some (.int 8 t)
  b_abs : mg "abs" = none
  b_all : mg "all" = none
  b_bool : mg "bool" = none
  b_dict : mg "dict" = none
  b_enumerate : mg "enumerate" = none
  b_int : mg "int" = none
  b_isinstance : mg "isinstance" = none
  b_len : mg "len" = none
  b_list : mg "list" = none
  b_max : mg "max" = none
  b_min : mg "min" = none
  b_range : mg "range" = none
  b_set : mg "set" = none
  b_str : mg "str" = none
  b_tuple : mg "tuple" = none
def txt_mk {K : PySem.W.Frag} {h : Heap} {mg : Str → Option Value} (X : K.In h) (G : h.Ns mainGlobals mg)
    {C_DearError : Addr} {C_NoTongue : Addr} 
    {f1 : Addr} {od1 an1 : Option Addr} {sl1 : Array (Option Value)} {oc1 kV1 dc1 pm1 cd1 ct1 : Value}
    {f2 : Addr} {od2 an2 : Option Addr} {sl2 : Array (Option Value)} {oc2 kV2 dc2 pm2 cd2 ct2 : Value}
    {f3 : Addr} {od3 an3 : Option Addr} {sl3 : Array (Option Value)} {oc3 kV3 dc3 pm3 cd3 ct3 : Value}
    {f4 : Addr} {od4 an4 : Option Addr} {sl4 : Array (Option Value)} {oc4 kV4 dc4 pm4 cd4 ct4 : Value}
    {f5 : Addr} {od5 an5 : Option Addr} {sl5 : Array (Option Value)} {oc5 kV5 dc5 pm5 cd5 ct5 : Value}
    {f6 : Addr} {od6 an6 : Option Addr} {sl6 : Array (Option Value)} {oc6 kV6 dc6 pm6 cd6 ct6 : Value}
    {f7 : Addr} {od7 an7 : Option Addr} {sl7 : Array (Option Value)} {oc7 kV7 dc7 pm7 cd7 ct7 : Value}
    {f8 : Addr} {od8 an8 : Option Addr} {sl8 : Array (Option Value)} {oc8 kV8 dc8 pm8 cd8 ct8 : Value}
    {f9 : Addr} {od9 an9 : Option Addr} {sl9 : Array (Option Value)} {oc9 kV9 dc9 pm9 cd9 ct9 : Value}
    {f10 : Addr} {od10 an10 : Option Addr} {sl10 : Array (Option Value)} {oc10 kV10 dc10 pm10 cd10 ct10 : Value}
    {f11 : Addr} {od11 an11 : Option Addr} {sl11 : Array (Option Value)} {oc11 kV11 dc11 pm11 cd11 ct11 : Value}
    {f12 : Addr} {od12 an12 : Option Addr} {sl12 : Array (Option Value)} {oc12 kV12 dc12 pm12 cd12 ct12 : Value}
    {f13 : Addr} {od13 an13 : Option Addr} {sl13 : Array (Option Value)} {oc13 kV13 dc13 pm13 cd13 ct13 : Value}
    {f14 : Addr} {od14 an14 : Option Addr} {sl14 : Array (Option Value)} {oc14 kV14 dc14 pm14 cd14 ct14 : Value}
    {f15 : Addr} {od15 an15 : Option Addr} {sl15 : Array (Option Value)} {oc15 kV15 dc15 pm15 cd15 ct15 : Value}
    {f16 : Addr} {od16 an16 : Option Addr} {sl16 : Array (Option Value)} {oc16 kV16 dc16 pm16 cd16 ct16 : Value}
    {f17 : Addr} {od17 an17 : Option Addr} {sl17 : Array (Option Value)} {oc17 kV17 dc17 pm17 cd17 ct17 : Value}
    {f18 : Addr} {od18 an18 : Option Addr} {sl18 : Array (Option Value)} {oc18 kV18 dc18 pm18 cd18 ct18 : Value}
    {f19 : Addr} {od19 an19 : Option Addr} {sl19 : Array (Option Value)} {oc19 kV19 dc19 pm19 cd19 ct19 : Value}
    {f20 : Addr} {od20 an20 : Option Addr} {sl20 : Array (Option Value)} {oc20 kV20 dc20 pm20 cd20 ct20 : Value}
    {f21 : Addr} {od21 an21 : Option Addr} {sl21 : Array (Option Value)} {oc21 kV21 dc21 pm21 cd21 ct21 : Value}
    {f22 : Addr} {od22 an22 : Option Addr} {sl22 : Array (Option Value)} {oc22 kV22 dc22 pm22 cd22 ct22 : Value}
    {f23 : Addr} {od23 an23 : Option Addr} {sl23 : Array (Option Value)} {oc23 kV23 dc23 pm23 cd23 ct23 : Value}
    {f24 : Addr} {od24 an24 : Option Addr} {sl24 : Array (Option Value)} {oc24 kV24 dc24 pm24 cd24 ct24 : Value}
    {f25 : Addr} {od25 an25 : Option Addr} {sl25 : Array (Option Value)} {oc25 kV25 dc25 pm25 cd25 ct25 : Value}
    {f26 : Addr} {od26 an26 : Option Addr} {sl26 : Array (Option Value)} {oc26 kV26 dc26 pm26 cd26 ct26 : Value}
    {f27 : Addr} {od27 an27 : Option Addr} {sl27 : Array (Option Value)} {oc27 kV27 dc27 pm27 cd27 ct27 : Value}
    {f28 : Addr} {od28 an28 : Option Addr} {sl28 : Array (Option Value)} {oc28 kV28 dc28 pm28 cd28 ct28 : Value}
    {f29 : Addr} {od29 an29 : Option Addr} {sl29 : Array (Option Value)} {oc29 kV29 dc29 pm29 cd29 ct29 : Value}
    {t30 : Tok}
    {t31 : Tok}
    {t32 : Tok}
    {t33 : Tok}
    (g_DearError : PySem.W.nsIn K mainGlobals "DearError" = some (some (.ref C_DearError)))
    (i_DearError : PySem.W.isClsIn K C_DearError = true) (t_DearError : PySem.W.typeIn K (.ref C_DearError) = some (.type "type"))
    (g_NoTongue : PySem.W.nsIn K mainGlobals "NoTongue" = some (some (.ref C_NoTongue)))
    (i_NoTongue : PySem.W.isClsIn K C_NoTongue = true) (t_NoTongue : PySem.W.typeIn K (.ref C_NoTongue) = some (.type "type"))
    (b_DearError : PySem.W.subIn K (.ref C_DearError) (.type "BaseException") = some true)
    (q_NoTongue_DearError : PySem.W.subIn K (.ref C_NoTongue) (.ref C_DearError) = some true)
    (n_NoTongue_DearError : (Value.ref C_NoTongue == Value.ref C_DearError) = false)
    (q_NoTongue_NoTongue : PySem.W.subIn K (.ref C_NoTongue) (.ref C_NoTongue) = some true)
    (q_NoTongue_ValueError : PySem.W.subIn K (.ref C_NoTongue) (.type "ValueError") = some true)
    (a1 : PySem.W.nsIn K mainGlobals "is_whole" = some (some (.ref f1))) (l1 : K.lookup f1 = some ⟨oc1, od1, .func (PySem.W.fnOf "is_whole" "is_whole" (defArgs s_is_whole) (defBody s_is_whole) (defScope s_is_whole) .none kV1 dc1 pm1 an1 cd1 ct1), sl1⟩) (c1 : PySem.W.codeIn K cd1 "is_whole" = true) (k1 : PySem.W.keepIn K (.ref f1) = true)
    (a2 : PySem.W.nsIn K mainGlobals "divisor" = some (some (.ref f2))) (l2 : K.lookup f2 = some ⟨oc2, od2, .func (PySem.W.fnOf "divisor" "divisor" (defArgs s_divisor) (defBody s_divisor) (defScope s_divisor) .none kV2 dc2 pm2 an2 cd2 ct2), sl2⟩) (c2 : PySem.W.codeIn K cd2 "divisor" = true) (k2 : PySem.W.keepIn K (.ref f2) = true)
    (a3 : PySem.W.nsIn K mainGlobals "is_fraction" = some (some (.ref f3))) (l3 : K.lookup f3 = some ⟨oc3, od3, .func (PySem.W.fnOf "is_fraction" "is_fraction" (defArgs s_is_fraction) (defBody s_is_fraction) (defScope s_is_fraction) .none kV3 dc3 pm3 an3 cd3 ct3), sl3⟩) (c3 : PySem.W.codeIn K cd3 "is_fraction" = true) (k3 : PySem.W.keepIn K (.ref f3) = true)
    (a4 : PySem.W.nsIn K mainGlobals "is_price" = some (some (.ref f4))) (l4 : K.lookup f4 = some ⟨oc4, od4, .func (PySem.W.fnOf "is_price" "is_price" (defArgs s_is_price) (defBody s_is_price) (defScope s_is_price) .none kV4 dc4 pm4 an4 cd4 ct4), sl4⟩) (c4 : PySem.W.codeIn K cd4 "is_price" = true) (k4 : PySem.W.keepIn K (.ref f4) = true)
    (a5 : PySem.W.nsIn K mainGlobals "is_letter" = some (some (.ref f5))) (l5 : K.lookup f5 = some ⟨oc5, od5, .func (PySem.W.fnOf "is_letter" "is_letter" (defArgs s_is_letter) (defBody s_is_letter) (defScope s_is_letter) .none kV5 dc5 pm5 an5 cd5 ct5), sl5⟩) (c5 : PySem.W.codeIn K cd5 "is_letter" = true) (k5 : PySem.W.keepIn K (.ref f5) = true)
    (a6 : PySem.W.nsIn K mainGlobals "is_sign" = some (some (.ref f6))) (l6 : K.lookup f6 = some ⟨oc6, od6, .func (PySem.W.fnOf "is_sign" "is_sign" (defArgs s_is_sign) (defBody s_is_sign) (defScope s_is_sign) .none kV6 dc6 pm6 an6 cd6 ct6), sl6⟩) (c6 : PySem.W.codeIn K cd6 "is_sign" = true) (k6 : PySem.W.keepIn K (.ref f6) = true)
    (a7 : PySem.W.nsIn K mainGlobals "are_signs" = some (some (.ref f7))) (l7 : K.lookup f7 = some ⟨oc7, od7, .func (PySem.W.fnOf "are_signs" "are_signs" (defArgs s_are_signs) (defBody s_are_signs) (defScope s_are_signs) .none kV7 dc7 pm7 an7 cd7 ct7), sl7⟩) (c7 : PySem.W.codeIn K cd7 "are_signs" = true) (k7 : PySem.W.keepIn K (.ref f7) = true)
    (a8 : PySem.W.nsIn K mainGlobals "are_unlike_texts" = some (some (.ref f8))) (l8 : K.lookup f8 = some ⟨oc8, od8, .func (PySem.W.fnOf "are_unlike_texts" "are_unlike_texts" (defArgs s_are_unlike_texts) (defBody s_are_unlike_texts) (defScope s_are_unlike_texts) .none kV8 dc8 pm8 an8 cd8 ct8), sl8⟩) (c8 : PySem.W.codeIn K cd8 "are_unlike_texts" = true) (k8 : PySem.W.keepIn K (.ref f8) = true)
    (a9 : PySem.W.nsIn K mainGlobals "look_at_tongue" = some (some (.ref f9))) (l9 : K.lookup f9 = some ⟨oc9, od9, .func (PySem.W.fnOf "look_at_tongue" "look_at_tongue" (defArgs s_look_at_tongue) (defBody s_look_at_tongue) (defScope s_look_at_tongue) .none kV9 dc9 pm9 an9 cd9 ct9), sl9⟩) (c9 : PySem.W.codeIn K cd9 "look_at_tongue" = true) (k9 : PySem.W.keepIn K (.ref f9) = true)
    (a10 : PySem.W.nsIn K mainGlobals "grown" = some (some (.ref f10))) (l10 : K.lookup f10 = some ⟨oc10, od10, .func (PySem.W.fnOf "grown" "grown" (defArgs s_grown) (defBody s_grown) (defScope s_grown) .none kV10 dc10 pm10 an10 cd10 ct10), sl10⟩) (c10 : PySem.W.codeIn K cd10 "grown" = true) (k10 : PySem.W.keepIn K (.ref f10) = true)
    (a11 : PySem.W.nsIn K mainGlobals "tree_of" = some (some (.ref f11))) (l11 : K.lookup f11 = some ⟨oc11, od11, .func (PySem.W.fnOf "tree_of" "tree_of" (defArgs s_tree_of) (defBody s_tree_of) (defScope s_tree_of) .none kV11 dc11 pm11 an11 cd11 ct11), sl11⟩) (c11 : PySem.W.codeIn K cd11 "tree_of" = true) (k11 : PySem.W.keepIn K (.ref f11) = true)
    (a12 : PySem.W.nsIn K mainGlobals "_law_cell" = some (some (.ref f12))) (l12 : K.lookup f12 = some ⟨oc12, od12, .func (PySem.W.fnOf "_law_cell" "_law_cell" (defArgs s__law_cell) (defBody s__law_cell) (defScope s__law_cell) .none kV12 dc12 pm12 an12 cd12 ct12), sl12⟩) (c12 : PySem.W.codeIn K cd12 "_law_cell" = true) (k12 : PySem.W.keepIn K (.ref f12) = true)
    (a13 : PySem.W.nsIn K mainGlobals "_law_source" = some (some (.ref f13))) (l13 : K.lookup f13 = some ⟨oc13, od13, .func (PySem.W.fnOf "_law_source" "_law_source" (defArgs s__law_source) (defBody s__law_source) (defScope s__law_source) .none kV13 dc13 pm13 an13 cd13 ct13), sl13⟩) (c13 : PySem.W.codeIn K cd13 "_law_source" = true) (k13 : PySem.W.keepIn K (.ref f13) = true)
    (a14 : PySem.W.nsIn K mainGlobals "_law_draw" = some (some (.ref f14))) (l14 : K.lookup f14 = some ⟨oc14, od14, .func (PySem.W.fnOf "_law_draw" "_law_draw" (defArgs s__law_draw) (defBody s__law_draw) (defScope s__law_draw) .none kV14 dc14 pm14 an14 cd14 ct14), sl14⟩) (c14 : PySem.W.codeIn K cd14 "_law_draw" = true) (k14 : PySem.W.keepIn K (.ref f14) = true)
    (a15 : PySem.W.nsIn K mainGlobals "_law_lowest" = some (some (.ref f15))) (l15 : K.lookup f15 = some ⟨oc15, od15, .func (PySem.W.fnOf "_law_lowest" "_law_lowest" (defArgs s__law_lowest) (defBody s__law_lowest) (defScope s__law_lowest) .none kV15 dc15 pm15 an15 cd15 ct15), sl15⟩) (c15 : PySem.W.codeIn K cd15 "_law_lowest" = true) (k15 : PySem.W.keepIn K (.ref f15) = true)
    (a16 : PySem.W.nsIn K mainGlobals "_law_price" = some (some (.ref f16))) (l16 : K.lookup f16 = some ⟨oc16, od16, .func (PySem.W.fnOf "_law_price" "_law_price" (defArgs s__law_price) (defBody s__law_price) (defScope s__law_price) .none kV16 dc16 pm16 an16 cd16 ct16), sl16⟩) (c16 : PySem.W.codeIn K cd16 "_law_price" = true) (k16 : PySem.W.keepIn K (.ref f16) = true)
    (a17 : PySem.W.nsIn K mainGlobals "_law_signs" = some (some (.ref f17))) (l17 : K.lookup f17 = some ⟨oc17, od17, .func (PySem.W.fnOf "_law_signs" "_law_signs" (defArgs s__law_signs) (defBody s__law_signs) (defScope s__law_signs) .none kV17 dc17 pm17 an17 cd17 ct17), sl17⟩) (c17 : PySem.W.codeIn K cd17 "_law_signs" = true) (k17 : PySem.W.keepIn K (.ref f17) = true)
    (a18 : PySem.W.nsIn K mainGlobals "_law_tongue" = some (some (.ref f18))) (l18 : K.lookup f18 = some ⟨oc18, od18, .func (PySem.W.fnOf "_law_tongue" "_law_tongue" (defArgs s__law_tongue) (defBody s__law_tongue) (defScope s__law_tongue) .none kV18 dc18 pm18 an18 cd18 ct18), sl18⟩) (c18 : PySem.W.codeIn K cd18 "_law_tongue" = true) (k18 : PySem.W.keepIn K (.ref f18) = true)
    (a19 : PySem.W.nsIn K mainGlobals "_law_copy" = some (some (.ref f19))) (l19 : K.lookup f19 = some ⟨oc19, od19, .func (PySem.W.fnOf "_law_copy" "_law_copy" (defArgs s__law_copy) (defBody s__law_copy) (defScope s__law_copy) .none kV19 dc19 pm19 an19 cd19 ct19), sl19⟩) (c19 : PySem.W.codeIn K cd19 "_law_copy" = true) (k19 : PySem.W.keepIn K (.ref f19) = true)
    (a20 : PySem.W.nsIn K mainGlobals "_law_comes" = some (some (.ref f20))) (l20 : K.lookup f20 = some ⟨oc20, od20, .func (PySem.W.fnOf "_law_comes" "_law_comes" (defArgs s__law_comes) (defBody s__law_comes) (defScope s__law_comes) .none kV20 dc20 pm20 an20 cd20 ct20), sl20⟩) (c20 : PySem.W.codeIn K cd20 "_law_comes" = true) (k20 : PySem.W.keepIn K (.ref f20) = true)
    (a21 : PySem.W.nsIn K mainGlobals "_law_stands" = some (some (.ref f21))) (l21 : K.lookup f21 = some ⟨oc21, od21, .func (PySem.W.fnOf "_law_stands" "_law_stands" (defArgs s__law_stands) (defBody s__law_stands) (defScope s__law_stands) .none kV21 dc21 pm21 an21 cd21 ct21), sl21⟩) (c21 : PySem.W.codeIn K cd21 "_law_stands" = true) (k21 : PySem.W.keepIn K (.ref f21) = true)
    (a22 : PySem.W.nsIn K mainGlobals "_law_is_word" = some (some (.ref f22))) (l22 : K.lookup f22 = some ⟨oc22, od22, .func (PySem.W.fnOf "_law_is_word" "_law_is_word" (defArgs s__law_is_word) (defBody s__law_is_word) (defScope s__law_is_word) .none kV22 dc22 pm22 an22 cd22 ct22), sl22⟩) (c22 : PySem.W.codeIn K cd22 "_law_is_word" = true) (k22 : PySem.W.keepIn K (.ref f22) = true)
    (a23 : PySem.W.nsIn K mainGlobals "_law_words" = some (some (.ref f23))) (l23 : K.lookup f23 = some ⟨oc23, od23, .func (PySem.W.fnOf "_law_words" "_law_words" (defArgs s__law_words) (defBody s__law_words) (defScope s__law_words) .none kV23 dc23 pm23 an23 cd23 ct23), sl23⟩) (c23 : PySem.W.codeIn K cd23 "_law_words" = true) (k23 : PySem.W.keepIn K (.ref f23) = true)
    (a24 : PySem.W.nsIn K mainGlobals "_law_clashes" = some (some (.ref f24))) (l24 : K.lookup f24 = some ⟨oc24, od24, .func (PySem.W.fnOf "_law_clashes" "_law_clashes" (defArgs s__law_clashes) (defBody s__law_clashes) (defScope s__law_clashes) .none kV24 dc24 pm24 an24 cd24 ct24), sl24⟩) (c24 : PySem.W.codeIn K cd24 "_law_clashes" = true) (k24 : PySem.W.keepIn K (.ref f24) = true)
    (a25 : PySem.W.nsIn K mainGlobals "_law_world" = some (some (.ref f25))) (l25 : K.lookup f25 = some ⟨oc25, od25, .func (PySem.W.fnOf "_law_world" "_law_world" (defArgs s__law_world) (defBody s__law_world) (defScope s__law_world) .none kV25 dc25 pm25 an25 cd25 ct25), sl25⟩) (c25 : PySem.W.codeIn K cd25 "_law_world" = true) (k25 : PySem.W.keepIn K (.ref f25) = true)
    (a26 : PySem.W.nsIn K mainGlobals "_law_read" = some (some (.ref f26))) (l26 : K.lookup f26 = some ⟨oc26, od26, .func (PySem.W.fnOf "_law_read" "_law_read" (defArgs s__law_read) (defBody s__law_read) (defScope s__law_read) .none kV26 dc26 pm26 an26 cd26 ct26), sl26⟩) (c26 : PySem.W.codeIn K cd26 "_law_read" = true) (k26 : PySem.W.keepIn K (.ref f26) = true)
    (a27 : PySem.W.nsIn K mainGlobals "_law_empty" = some (some (.ref f27))) (l27 : K.lookup f27 = some ⟨oc27, od27, .func (PySem.W.fnOf "_law_empty" "_law_empty" (defArgs s__law_empty) (defBody s__law_empty) (defScope s__law_empty) .none kV27 dc27 pm27 an27 cd27 ct27), sl27⟩) (c27 : PySem.W.codeIn K cd27 "_law_empty" = true) (k27 : PySem.W.keepIn K (.ref f27) = true)
    (a28 : PySem.W.nsIn K mainGlobals "_law_right" = some (some (.ref f28))) (l28 : K.lookup f28 = some ⟨oc28, od28, .func (PySem.W.fnOf "_law_right" "_law_right" (defArgs s__law_right) (defBody s__law_right) (defScope s__law_right) .none kV28 dc28 pm28 an28 cd28 ct28), sl28⟩) (c28 : PySem.W.codeIn K cd28 "_law_right" = true) (k28 : PySem.W.keepIn K (.ref f28) = true)
    (a29 : PySem.W.nsIn K mainGlobals "law" = some (some (.ref f29))) (l29 : K.lookup f29 = some ⟨oc29, od29, .func (PySem.W.fnOf "law" "law" (defArgs s_law) (defBody s_law) (defScope s_law) .none kV29 dc29 pm29 an29 cd29 ct29), sl29⟩) (c29 : PySem.W.codeIn K cd29 "law" = true) (k29 : PySem.W.keepIn K (.ref f29) = true)
    (a30 : PySem.W.nsIn K mainGlobals "LETTERS" = some (some (.str "abcdefghijklmnopqrstuvwxyz" t30)))
    (a31 : PySem.W.nsIn K mainGlobals "FEWEST_SIGNS" = some (some (.int 2 t31)))
    (a32 : PySem.W.nsIn K mainGlobals "MOST_SIGNS" = some (some (.int 6 t32)))
    (a33 : PySem.W.nsIn K mainGlobals "LONGEST" = some (some (.int 8 t33)))
    (a34 : PySem.W.nsIn K mainGlobals "abs" = some none)
    (a35 : PySem.W.nsIn K mainGlobals "all" = some none)
    (a36 : PySem.W.nsIn K mainGlobals "bool" = some none)
    (a37 : PySem.W.nsIn K mainGlobals "dict" = some none)
    (a38 : PySem.W.nsIn K mainGlobals "enumerate" = some none)
    (a39 : PySem.W.nsIn K mainGlobals "int" = some none)
    (a40 : PySem.W.nsIn K mainGlobals "isinstance" = some none)
    (a41 : PySem.W.nsIn K mainGlobals "len" = some none)
    (a42 : PySem.W.nsIn K mainGlobals "list" = some none)
    (a43 : PySem.W.nsIn K mainGlobals "max" = some none)
    (a44 : PySem.W.nsIn K mainGlobals "min" = some none)
    (a45 : PySem.W.nsIn K mainGlobals "range" = some none)
    (a46 : PySem.W.nsIn K mainGlobals "set" = some none)
    (a47 : PySem.W.nsIn K mainGlobals "str" = some none)
    (a48 : PySem.W.nsIn K mainGlobals "tuple" = some none)
    : Txt K mg :=
  ⟨⟨C_DearError, C_NoTongue⟩,
   PySem.W.mg_of X G g_DearError,
   PySem.W.mg_of X G g_NoTongue,
   kit_ref n_NoTongue_DearError i_DearError t_DearError q_NoTongue_DearError,
   kit_self,
   kit_val q_NoTongue_ValueError,
   exm_ref2 b_DearError i_DearError t_DearError q_NoTongue_DearError,
   ⟨f1, _, PySem.W.mg_of X G a1, fun_mk (st := s_is_whole) l1 c1 k1, (fun_mk (st := s_is_whole) l1 c1 k1).binds (ps := ["thing"]) fun _ _ _ _ _ _ us hl => match us, hl with | [_], _ => rfl⟩,
   ⟨f2, _, PySem.W.mg_of X G a2, fun_mk (st := s_divisor) l2 c2 k2, (fun_mk (st := s_divisor) l2 c2 k2).binds (ps := ["one", "other"]) fun _ _ _ _ _ _ us hl => match us, hl with | [_, _], _ => rfl⟩,
   ⟨f3, _, PySem.W.mg_of X G a3, fun_mk (st := s_is_fraction) l3 c3 k3, (fun_mk (st := s_is_fraction) l3 c3 k3).binds (ps := ["thing"]) fun _ _ _ _ _ _ us hl => match us, hl with | [_], _ => rfl⟩,
   ⟨f4, _, PySem.W.mg_of X G a4, fun_mk (st := s_is_price) l4 c4 k4, (fun_mk (st := s_is_price) l4 c4 k4).binds (ps := ["thing"]) fun _ _ _ _ _ _ us hl => match us, hl with | [_], _ => rfl⟩,
   ⟨f5, _, PySem.W.mg_of X G a5, fun_mk (st := s_is_letter) l5 c5 k5, (fun_mk (st := s_is_letter) l5 c5 k5).binds (ps := ["thing"]) fun _ _ _ _ _ _ us hl => match us, hl with | [_], _ => rfl⟩,
   ⟨f6, _, PySem.W.mg_of X G a6, fun_mk (st := s_is_sign) l6 c6 k6, (fun_mk (st := s_is_sign) l6 c6 k6).binds (ps := ["thing"]) fun _ _ _ _ _ _ us hl => match us, hl with | [_], _ => rfl⟩,
   ⟨f7, _, PySem.W.mg_of X G a7, fun_mk (st := s_are_signs) l7 c7 k7, (fun_mk (st := s_are_signs) l7 c7 k7).binds (ps := ["thing"]) fun _ _ _ _ _ _ us hl => match us, hl with | [_], _ => rfl⟩,
   ⟨f8, _, PySem.W.mg_of X G a8, fun_mk (st := s_are_unlike_texts) l8 c8 k8, (fun_mk (st := s_are_unlike_texts) l8 c8 k8).binds (ps := ["thing", "size", "letters"]) fun _ _ _ _ _ _ us hl => match us, hl with | [_, _, _], _ => rfl⟩,
   ⟨f9, _, PySem.W.mg_of X G a9, fun_mk (st := s_look_at_tongue) l9 c9 k9, (fun_mk (st := s_look_at_tongue) l9 c9 k9).binds (ps := ["thing"]) fun _ _ _ _ _ _ us hl => match us, hl with | [_], _ => rfl⟩,
   ⟨f10, _, PySem.W.mg_of X G a10, fun_mk (st := s_grown) l10 c10 k10, (fun_mk (st := s_grown) l10 c10 k10).binds (ps := ["letters", "ends"]) fun _ _ _ _ _ _ us hl => match us, hl with | [_, _], _ => rfl⟩,
   ⟨f11, _, PySem.W.mg_of X G a11, fun_mk (st := s_tree_of) l11 c11 k11, (fun_mk (st := s_tree_of) l11 c11 k11).binds (ps := ["tongue", "book"]) fun _ _ _ _ _ _ us hl => match us, hl with | [_, _], _ => rfl⟩,
   ⟨f12, _, PySem.W.mg_of X G a12, fun_mk (st := s__law_cell) l12 c12 k12, (fun_mk (st := s__law_cell) l12 c12 k12).binds (ps := ["_law_script", "_law_k"]) fun _ _ _ _ _ _ us hl => match us, hl with | [_, _], _ => rfl⟩,
   ⟨f13, _, PySem.W.mg_of X G a13, fun_mk (st := s__law_source) l13 c13 k13, (fun_mk (st := s__law_source) l13 c13 k13).binds (ps := ["_law_cell_here", "_law_k"]) fun _ _ _ _ _ _ us hl => match us, hl with | [_, _], _ => rfl⟩,
   ⟨f14, _, PySem.W.mg_of X G a14, fun_mk (st := s__law_draw) l14 c14 k14, (fun_mk (st := s__law_draw) l14 c14 k14).binds (ps := ["_law_source_here", "_law_many"]) fun _ _ _ _ _ _ us hl => match us, hl with | [_, _], _ => rfl⟩,
   ⟨f15, _, PySem.W.mg_of X G a15, fun_mk (st := s__law_lowest) l15 c15 k15, (fun_mk (st := s__law_lowest) l15 c15 k15).binds (ps := ["_law_top", "_law_bottom"]) fun _ _ _ _ _ _ us hl => match us, hl with | [_, _], _ => rfl⟩,
   ⟨f16, _, PySem.W.mg_of X G a16, fun_mk (st := s__law_price) l16 c16 k16, (fun_mk (st := s__law_price) l16 c16 k16).binds (ps := ["_law_source_here"]) fun _ _ _ _ _ _ us hl => match us, hl with | [_], _ => rfl⟩,
   ⟨f17, _, PySem.W.mg_of X G a17, fun_mk (st := s__law_signs) l17 c17 k17, (fun_mk (st := s__law_signs) l17 c17 k17).binds (ps := ["_law_source_here", "_law_many"]) fun _ _ _ _ _ _ us hl => match us, hl with | [_, _], _ => rfl⟩,
   ⟨f18, _, PySem.W.mg_of X G a18, fun_mk (st := s__law_tongue) l18 c18 k18, (fun_mk (st := s__law_tongue) l18 c18 k18).binds (ps := ["_law_script", "_law_base", "_law_most", "_law_longs"]) fun _ _ _ _ _ _ us hl => match us, hl with | [_, _, _, _], _ => rfl⟩,
   ⟨f19, _, PySem.W.mg_of X G a19, fun_mk (st := s__law_copy) l19 c19 k19, (fun_mk (st := s__law_copy) l19 c19 k19).binds (ps := ["_law_tongue_here"]) fun _ _ _ _ _ _ us hl => match us, hl with | [_], _ => rfl⟩,
   ⟨f20, _, PySem.W.mg_of X G a20, fun_mk (st := s__law_comes) l20 c20 k20, (fun_mk (st := s__law_comes) l20 c20 k20).binds (ps := ["_law_tongue_here", "_law_ahead", "_law_sign"]) fun _ _ _ _ _ _ us hl => match us, hl with | [_, _, _], _ => rfl⟩,
   ⟨f21, _, PySem.W.mg_of X G a21, fun_mk (st := s__law_stands) l21 c21 k21, (fun_mk (st := s__law_stands) l21 c21 k21).binds (ps := ["_law_tongue_here", "_law_thing"]) fun _ _ _ _ _ _ us hl => match us, hl with | [_, _], _ => rfl⟩,
   ⟨f22, _, PySem.W.mg_of X G a22, fun_mk (st := s__law_is_word) l22 c22 k22, (fun_mk (st := s__law_is_word) l22 c22 k22).binds (ps := ["_law_tongue_here", "_law_thing"]) fun _ _ _ _ _ _ us hl => match us, hl with | [_, _], _ => rfl⟩,
   ⟨f23, _, PySem.W.mg_of X G a23, fun_mk (st := s__law_words) l23 c23 k23, (fun_mk (st := s__law_words) l23 c23 k23).binds (ps := ["_law_tongue_here"]) fun _ _ _ _ _ _ us hl => match us, hl with | [_], _ => rfl⟩,
   ⟨f24, _, PySem.W.mg_of X G a24, fun_mk (st := s__law_clashes) l24 c24 k24, (fun_mk (st := s__law_clashes) l24 c24 k24).binds (ps := ["_law_book", "_law_word"]) fun _ _ _ _ _ _ us hl => match us, hl with | [_, _], _ => rfl⟩,
   ⟨f25, _, PySem.W.mg_of X G a25, fun_mk (st := s__law_world) l25 c25 k25, (fun_mk (st := s__law_world) l25 c25 k25).binds (ps := ["_law_script"]) fun _ _ _ _ _ _ us hl => match us, hl with | [_], _ => rfl⟩,
   ⟨f26, _, PySem.W.mg_of X G a26, fun_mk (st := s__law_read) l26 c26 k26, (fun_mk (st := s__law_read) l26 c26 k26).binds (ps := ["_law_names", "_law_thing", "_law_begin", "_law_found"]) fun _ _ _ _ _ _ us hl => match us, hl with | [_, _, _, _], _ => rfl⟩,
   ⟨f27, _, PySem.W.mg_of X G a27, fun_mk (st := s__law_empty) l27 c27 k27, (fun_mk (st := s__law_empty) l27 c27 k27).binds (ps := ["_law_thing"]) fun _ _ _ _ _ _ us hl => match us, hl with | [_], _ => rfl⟩,
   ⟨f28, _, PySem.W.mg_of X G a28, fun_mk (st := s__law_right) l28 c28 k28, (fun_mk (st := s__law_right) l28 c28 k28).binds (ps := ["_law_tongue_here", "_law_book"]) fun _ _ _ _ _ _ us hl => match us, hl with | [_, _], _ => rfl⟩,
   ⟨f29, _, PySem.W.mg_of X G a29, fun_mk (st := s_law) l29 c29 k29, (fun_mk (st := s_law) l29 c29 k29).binds (ps := ["_law_script"]) fun _ _ _ _ _ _ us hl => match us, hl with | [_], _ => rfl⟩,
   ⟨_, PySem.W.mg_of X G a30⟩,
   ⟨_, PySem.W.mg_of X G a31⟩,
   ⟨_, PySem.W.mg_of X G a32⟩,
   ⟨_, PySem.W.mg_of X G a33⟩,
   PySem.W.mg_none_of X G a34,
   PySem.W.mg_none_of X G a35,
   PySem.W.mg_none_of X G a36,
   PySem.W.mg_none_of X G a37,
   PySem.W.mg_none_of X G a38,
   PySem.W.mg_none_of X G a39,
   PySem.W.mg_none_of X G a40,
   PySem.W.mg_none_of X G a41,
   PySem.W.mg_none_of X G a42,
   PySem.W.mg_none_of X G a43,
   PySem.W.mg_none_of X G a44,
   PySem.W.mg_none_of X G a45,
   PySem.W.mg_none_of X G a46,
   PySem.W.mg_none_of X G a47,
   PySem.W.mg_none_of X G a48⟩
end Dear


namespace Du
open PySem PySem.Spec PyProof.Rows L2 Dear
noncomputable def B_is_whole : Env → Out := (sRet [] (eAnd (eIsi "int" (eVar 0)) (eNot (eIsi "bool" (eVar 0)))))
theorem B_is_whole_u (ρ : Env) : B_is_whole ρ = (sRet [] (eAnd (eIsi "int" (eVar 0)) (eNot (eIsi "bool" (eVar 0))))) ρ := rfl
noncomputable def F_is_whole : List D → Res D := runD (["thing"] : List Str).length n_is_whole.length B_is_whole
theorem ok_is_whole {P : Program} {w : World} {K : PySem.W.Frag} {mg : Str → Option Value} {base : Heap} (T : Txt K mg) : OkF P w K mg base CX0 (0 + 1) "is_whole" ["thing"] (sp0 K F_is_whole) :=
  ok0 (g := B_is_whole) T.f_is_whole c_is_whole fun f cdv A outer s H E hr => 
(fss_one (fs_ret (L := []) (fe_and (fe_isi (t := "int") tn_int (fe_var 0) (pe_bltn (v := .ty "int") (by rfl) T.b_int (by decide +kernel) rfl) T.b_isinstance) (fe_one (fe_not (fe_isi (t := "bool") tn_bool (fe_var 0) (pe_bltn (v := .ty "bool") (by rfl) T.b_bool (by decide +kernel) rfl) T.b_isinstance))))))

noncomputable def B_divisor_1 : Env → Out := (sPar 0 1 [] (aCons (eVar 1) (aCons (eOp dMod (eVar 0) (eVar 1)) aNil)))
theorem B_divisor_1_u (ρ : Env) : B_divisor_1 ρ = (sPar 0 1 [] (aCons (eVar 1) (aCons (eOp dMod (eVar 0) (eVar 1)) aNil))) ρ := rfl
noncomputable def B_divisor : Env → Out := (sSeq (sWhile [] (bT (eOp dGt (eVar 1) (eC (.int 0))))
B_divisor_1)
(sRet [] (eVar 0)))
theorem B_divisor_u (ρ : Env) : B_divisor ρ = (sSeq (sWhile [] (bT (eOp dGt (eVar 1) (eC (.int 0))))
B_divisor_1)
(sRet [] (eVar 0))) ρ := rfl
noncomputable def F_divisor : List D → Res D := runD (["one", "other"] : List Str).length n_divisor.length B_divisor
theorem ok_divisor {P : Program} {w : World} {K : PySem.W.Frag} {mg : Str → Option Value} {base : Heap} (T : Txt K mg) : OkF P w K mg base CX0 (0 + 1) "divisor" ["one", "other"] (sp0 K F_divisor) :=
  ok0 (g := B_divisor) T.f_divisor c_divisor fun f cdv A outer s H E hr => 
(fss_cons (fs_while (L := []) PassesOwn.never (ft_cmp op_gt opd_gt gb_cmp (fe_var 1) fe_int)
(fss_one (fs_par (L := []) 0 1 c_divisor.nd (fa_cons (fe_var 1) (fa_cons (fe_op op_mod opd_mod (fe_var 0) (fe_var 1)) fa_nil)))))
(fss_one (fs_ret (L := []) (fe_var 0))))

noncomputable def B_is_fraction : Env → Out := (sSeq (sIf [] (bOr (bNot (bT (eIsi "tuple" (eVar 0)))) (bT (eOp dNe (eCall dLen (aCons (eVar 0) aNil)) (eC (.int 2)))))
(sRet [] (eC (.bl false)))
sPass)
(sSeq (sAsg [] (eVar 0) (tgT [(tgN 1), (tgN 2)]))
(sSeq (sIf [] (bOr (bNot (bT (eCall F_is_whole (aCons (eVar 1) aNil)))) (bOr (bNot (bT (eCall F_is_whole (aCons (eVar 2) aNil)))) (bT (eOp dLt (eVar 2) (eC (.int 1))))))
(sRet [] (eC (.bl false)))
sPass)
(sRet [] (eOp dEq (eCall F_divisor (aCons (eVar 2) (aCons (eCall dAbs (aCons (eVar 1) aNil)) aNil))) (eC (.int 1)))))))
theorem B_is_fraction_u (ρ : Env) : B_is_fraction ρ = (sSeq (sIf [] (bOr (bNot (bT (eIsi "tuple" (eVar 0)))) (bT (eOp dNe (eCall dLen (aCons (eVar 0) aNil)) (eC (.int 2)))))
(sRet [] (eC (.bl false)))
sPass)
(sSeq (sAsg [] (eVar 0) (tgT [(tgN 1), (tgN 2)]))
(sSeq (sIf [] (bOr (bNot (bT (eCall F_is_whole (aCons (eVar 1) aNil)))) (bOr (bNot (bT (eCall F_is_whole (aCons (eVar 2) aNil)))) (bT (eOp dLt (eVar 2) (eC (.int 1))))))
(sRet [] (eC (.bl false)))
sPass)
(sRet [] (eOp dEq (eCall F_divisor (aCons (eVar 2) (aCons (eCall dAbs (aCons (eVar 1) aNil)) aNil))) (eC (.int 1))))))) ρ := rfl
noncomputable def F_is_fraction : List D → Res D := runD (["thing"] : List Str).length n_is_fraction.length B_is_fraction
theorem ok_is_fraction {P : Program} {w : World} {K : PySem.W.Frag} {mg : Str → Option Value} {base : Heap} (T : Txt K mg) : OkF P w K mg base CX0 (1 + 1) "is_fraction" ["thing"] (sp0 K F_is_fraction) :=
  ok0 (g := B_is_fraction) T.f_is_fraction c_is_fraction fun f cdv A outer s H E hr => 
(fss_cons (fs_if (L := []) (ft_w (fw_or (ft_not (ft_tru (fe_isi (t := "tuple") tn_tuple (fe_var 0) (pe_bltn (v := .ty "tuple") (by rfl) T.b_tuple (by decide +kernel) rfl) T.b_isinstance))) (fw_or1 (ft_cmp (op_neA (K := K) hr.units) opd_ne gb_ne (fe_callB (cr_len (K := K)) cd_len T.b_len (fa_cons (fe_var 0) fa_nil)) fe_int))))
(fss_one (fs_ret (L := []) fe_bl))
fss_nil)
(fss_cons (fs_asg (L := []) (fe_var 0) (fg_tup (fgs_cons (fg_name 1 c_is_fraction.nd) (fgs_cons (fg_name 2 c_is_fraction.nd) fgs_nil))))
(fss_cons (fs_if (L := []) (ft_w (fw_or (ft_not (ft_tru (fe_call (ok_is_whole T) hr (fa_cons (fe_var 1) fa_nil)))) (fw_or (ft_not (ft_tru (fe_call (ok_is_whole T) hr (fa_cons (fe_var 2) fa_nil)))) (fw_or1 (ft_cmp op_lt opd_lt gb_cmp (fe_var 2) fe_int)))))
(fss_one (fs_ret (L := []) fe_bl))
fss_nil)
(fss_one (fs_ret (L := []) (fe_cmp (op_eqA (K := K) hr.units) opd_eq (fe_call (ok_divisor T) hr (fa_cons (fe_var 2) (fa_cons (fe_callB call_abs cd_abs T.b_abs (fa_cons (fe_var 1) fa_nil)) fa_nil))) fe_int))))))

noncomputable def B_is_price : Env → Out := (sRet [] (eAnd (eCall F_is_fraction (aCons (eVar 0) aNil)) (eOp dGt (eOp dIx (eVar 0) (eC (.int 0))) (eC (.int 0)))))
theorem B_is_price_u (ρ : Env) : B_is_price ρ = (sRet [] (eAnd (eCall F_is_fraction (aCons (eVar 0) aNil)) (eOp dGt (eOp dIx (eVar 0) (eC (.int 0))) (eC (.int 0))))) ρ := rfl
noncomputable def F_is_price : List D → Res D := runD (["thing"] : List Str).length n_is_price.length B_is_price
theorem ok_is_price {P : Program} {w : World} {K : PySem.W.Frag} {mg : Str → Option Value} {base : Heap} (T : Txt K mg) : OkF P w K mg base CX0 (2 + 1) "is_price" ["thing"] (sp0 K F_is_price) :=
  ok0 (g := B_is_price) T.f_is_price c_is_price fun f cdv A outer s H E hr => 
(fss_one (fs_ret (L := []) (fe_and (fe_call (ok_is_fraction T) hr (fa_cons (fe_var 0) fa_nil)) (fe_one (fe_cmp op_gt opd_gt (fe_ix (ix_A (K := K) (u1 hr.units)) opd_ix (fe_var 0) fe_int) fe_int)))))

noncomputable def B_is_letter : Env → Out := (sRet [] (eAnd (eIsi "str" (eVar 0)) (eAnd (eOp dEq (eCall dLen (aCons (eVar 0) aNil)) (eC (.int 1))) (eOp (dIn false) (eVar 0) (eC (.str "abcdefghijklmnopqrstuvwxyz"))))))
theorem B_is_letter_u (ρ : Env) : B_is_letter ρ = (sRet [] (eAnd (eIsi "str" (eVar 0)) (eAnd (eOp dEq (eCall dLen (aCons (eVar 0) aNil)) (eC (.int 1))) (eOp (dIn false) (eVar 0) (eC (.str "abcdefghijklmnopqrstuvwxyz")))))) ρ := rfl
noncomputable def F_is_letter : List D → Res D := runD (["thing"] : List Str).length n_is_letter.length B_is_letter
theorem ok_is_letter {P : Program} {w : World} {K : PySem.W.Frag} {mg : Str → Option Value} {base : Heap} (T : Txt K mg) : OkF P w K mg base CX0 (0 + 1) "is_letter" ["thing"] (sp0 K F_is_letter) :=
  ok0 (g := B_is_letter) T.f_is_letter c_is_letter fun f cdv A outer s H E hr => have hu65 := u65 hr; 
(fss_one (fs_ret (L := []) (fe_and (fe_isi (t := "str") tn_str (fe_var 0) (pe_bltn (v := .ty "str") (by rfl) T.b_str (by decide +kernel) rfl) T.b_isinstance) (fe_and (fe_cmp (op_eqA (K := K) hr.units) opd_eq (fe_callB (cr_len (K := K)) cd_len T.b_len (fa_cons (fe_var 0) fa_nil)) fe_int) (fe_one (fe_cmp (op_inA (K := K) hu65) opd_inF (fe_var 0) (fe_gs T.g_LETTERS)))))))

noncomputable def B_is_sign : Env → Out := (sSeq (sIf [] (bOr (bNot (bT (eIsi "tuple" (eVar 0)))) (bT (eOp dNe (eCall dLen (aCons (eVar 0) aNil)) (eC (.int 3)))))
(sRet [] (eC (.bl false)))
sPass)
(sSeq (sAsg [] (eVar 0) (tgT [(tgN 1), (tgN 2), (tgN 3)]))
(sRet [] (eAnd (eCall F_is_letter (aCons (eVar 1) aNil)) (eAnd (eCall F_is_price (aCons (eVar 2) aNil)) (eOr (eOp dIsN (eVar 3) (eC .non)) (eCall F_is_price (aCons (eVar 3) aNil))))))))
theorem B_is_sign_u (ρ : Env) : B_is_sign ρ = (sSeq (sIf [] (bOr (bNot (bT (eIsi "tuple" (eVar 0)))) (bT (eOp dNe (eCall dLen (aCons (eVar 0) aNil)) (eC (.int 3)))))
(sRet [] (eC (.bl false)))
sPass)
(sSeq (sAsg [] (eVar 0) (tgT [(tgN 1), (tgN 2), (tgN 3)]))
(sRet [] (eAnd (eCall F_is_letter (aCons (eVar 1) aNil)) (eAnd (eCall F_is_price (aCons (eVar 2) aNil)) (eOr (eOp dIsN (eVar 3) (eC .non)) (eCall F_is_price (aCons (eVar 3) aNil)))))))) ρ := rfl
noncomputable def F_is_sign : List D → Res D := runD (["thing"] : List Str).length n_is_sign.length B_is_sign
theorem ok_is_sign {P : Program} {w : World} {K : PySem.W.Frag} {mg : Str → Option Value} {base : Heap} (T : Txt K mg) : OkF P w K mg base CX0 (3 + 1) "is_sign" ["thing"] (sp0 K F_is_sign) :=
  ok0 (g := B_is_sign) T.f_is_sign c_is_sign fun f cdv A outer s H E hr => 
(fss_cons (fs_if (L := []) (ft_w (fw_or (ft_not (ft_tru (fe_isi (t := "tuple") tn_tuple (fe_var 0) (pe_bltn (v := .ty "tuple") (by rfl) T.b_tuple (by decide +kernel) rfl) T.b_isinstance))) (fw_or1 (ft_cmp (op_neA (K := K) hr.units) opd_ne gb_ne (fe_callB (cr_len (K := K)) cd_len T.b_len (fa_cons (fe_var 0) fa_nil)) fe_int))))
(fss_one (fs_ret (L := []) fe_bl))
fss_nil)
(fss_cons (fs_asg (L := []) (fe_var 0) (fg_tup (fgs_cons (fg_name 1 c_is_sign.nd) (fgs_cons (fg_name 2 c_is_sign.nd) (fgs_cons (fg_name 3 c_is_sign.nd) fgs_nil)))))
(fss_one (fs_ret (L := []) (fe_and (fe_call (ok_is_letter T) hr (fa_cons (fe_var 1) fa_nil)) (fe_and (fe_call (ok_is_price T) hr (fa_cons (fe_var 2) fa_nil)) (fe_one (fe_or (fe_cmp op_isN opd_isN (fe_var 3) fe_non) (fe_one (fe_call (ok_is_price T) hr (fa_cons (fe_var 3) fa_nil)))))))))))

noncomputable def B_are_signs : Env → Out := (sSeq (sIf [] (bOr (bNot (bT (eIsi "list" (eVar 0)))) (bNot (bT (eChain dLe dLe (eC (.int 2)) (eCall dLen (aCons (eVar 0) aNil)) (eC (.int 6))))))
(sRet [] (eC (.bl false)))
sPass)
(sSeq (sIf [] (bNot (bT (eCall dAll (aCons (eComp [1] (iAny (eVar 0)) (tgN 1) bYes (eCall F_is_sign (aCons (eVar 1) aNil))) aNil))))
(sRet [] (eC (.bl false)))
sPass)
(sRet [] (eOp dEq (eLenSet (eComp [1] (iAny (eVar 0)) (tgN 1) bYes (eOp dIx (eVar 1) (eC (.int 0))))) (eCall dLen (aCons (eVar 0) aNil))))))
theorem B_are_signs_u (ρ : Env) : B_are_signs ρ = (sSeq (sIf [] (bOr (bNot (bT (eIsi "list" (eVar 0)))) (bNot (bT (eChain dLe dLe (eC (.int 2)) (eCall dLen (aCons (eVar 0) aNil)) (eC (.int 6))))))
(sRet [] (eC (.bl false)))
sPass)
(sSeq (sIf [] (bNot (bT (eCall dAll (aCons (eComp [1] (iAny (eVar 0)) (tgN 1) bYes (eCall F_is_sign (aCons (eVar 1) aNil))) aNil))))
(sRet [] (eC (.bl false)))
sPass)
(sRet [] (eOp dEq (eLenSet (eComp [1] (iAny (eVar 0)) (tgN 1) bYes (eOp dIx (eVar 1) (eC (.int 0))))) (eCall dLen (aCons (eVar 0) aNil)))))) ρ := rfl
noncomputable def F_are_signs : List D → Res D := runD (["thing"] : List Str).length n_are_signs.length B_are_signs
theorem ok_are_signs {P : Program} {w : World} {K : PySem.W.Frag} {mg : Str → Option Value} {base : Heap} (T : Txt K mg) : OkF P w K mg base CX0 (4 + 1) "are_signs" ["thing"] (sp0 K F_are_signs) :=
  ok0 (g := B_are_signs) T.f_are_signs c_are_signs fun f cdv A outer s H E hr => 
(fss_cons (fs_if (L := []) (ft_w (fw_or (ft_not (ft_tru (fe_isi (t := "list") tn_list (fe_var 0) (pe_bltn (v := .ty "list") (by rfl) T.b_list (by decide +kernel) rfl) T.b_isinstance))) (fw_or1 (ft_not (ft_chain op_le opd_le op_le opd_le gb_cmp (fe_gi T.g_FEWEST_SIGNS) (fe_callB (cr_len (K := K)) cd_len T.b_len (fa_cons (fe_var 0) fa_nil)) (fe_gi T.g_MOST_SIGNS))))))
(fss_one (fs_ret (L := []) fe_bl))
fss_nil)
(fss_cons (fs_if (L := []) (ft_not (ft_tru (fe_callB (cr_all_k K rfl) cd_all T.b_all (fa_cons (fe_comp [("one", 1)] c_are_signs.nd (fi_any (fe_var 0)) (fun _ _ _ _ _ => (fg_name 1 c_are_signs.nd)) (fun _ _ _ _ _ => fts_nil) (fun _ _ _ _ _ => (fe_call (ok_is_sign T) hr (fa_cons (fe_var 1) fa_nil))) (blkOk_by (own := [("one", 1)]) (N := n_are_signs) (sc := defScope s_are_signs) (by decide +kernel))) fa_nil))))
(fss_one (fs_ret (L := []) fe_bl))
fss_nil)
(fss_one (fs_ret (L := []) (fe_cmp (op_eqA (K := K) hr.units) opd_eq (fe_lenSet T.b_len T.b_set (fe_comp [("one", 1)] c_are_signs.nd (fi_any (fe_var 0)) (fun _ _ _ _ _ => (fg_name 1 c_are_signs.nd)) (fun _ _ _ _ _ => fts_nil) (fun _ _ _ _ _ => (fe_ix (ix_A (K := K) (u1 hr.units)) opd_ix (fe_var 1) fe_int)) (blkOk_by (own := [("one", 1)]) (N := n_are_signs) (sc := defScope s_are_signs) (by decide +kernel)))) (fe_callB (cr_len (K := K)) cd_len T.b_len (fa_cons (fe_var 0) fa_nil)))))))

noncomputable def B_are_unlike_texts_1 : Env → Out := (sSeq (sIf [] (bOr (bNot (bT (eIsi "str" (eVar 4)))) (bOr (bT (eOp dNe (eCall dLen (aCons (eVar 4) aNil)) (eVar 1))) (bT (eOp (dIn false) (eVar 4) (eSl (eVar 0) pNo (pYes (eVar 3)))))))
(sRet [] (eC (.bl false)))
sPass)
(sIf [] (bNot (bT (eCall dAll (aCons (eComp [5] (iAny (eVar 4)) (tgN 5) bYes (eOp (dIn false) (eVar 5) (eVar 2))) aNil))))
(sRet [] (eC (.bl false)))
sPass))
theorem B_are_unlike_texts_1_u (ρ : Env) : B_are_unlike_texts_1 ρ = (sSeq (sIf [] (bOr (bNot (bT (eIsi "str" (eVar 4)))) (bOr (bT (eOp dNe (eCall dLen (aCons (eVar 4) aNil)) (eVar 1))) (bT (eOp (dIn false) (eVar 4) (eSl (eVar 0) pNo (pYes (eVar 3)))))))
(sRet [] (eC (.bl false)))
sPass)
(sIf [] (bNot (bT (eCall dAll (aCons (eComp [5] (iAny (eVar 4)) (tgN 5) bYes (eOp (dIn false) (eVar 5) (eVar 2))) aNil))))
(sRet [] (eC (.bl false)))
sPass)) ρ := rfl
noncomputable def B_are_unlike_texts : Env → Out := (sSeq (sIf [] (bNot (bT (eIsi "list" (eVar 0))))
(sRet [] (eC (.bl false)))
sPass)
(sSeq (sFor [] (iEnumD (aCons (eVar 0) aNil)) (tgT [(tgN 3), (tgN 4)])
B_are_unlike_texts_1
[3, 4, 5])
(sRet [] (eC (.bl true)))))
theorem B_are_unlike_texts_u (ρ : Env) : B_are_unlike_texts ρ = (sSeq (sIf [] (bNot (bT (eIsi "list" (eVar 0))))
(sRet [] (eC (.bl false)))
sPass)
(sSeq (sFor [] (iEnumD (aCons (eVar 0) aNil)) (tgT [(tgN 3), (tgN 4)])
B_are_unlike_texts_1
[3, 4, 5])
(sRet [] (eC (.bl true))))) ρ := rfl
noncomputable def F_are_unlike_texts : List D → Res D := runD (["thing", "size", "letters"] : List Str).length n_are_unlike_texts.length B_are_unlike_texts
theorem ok_are_unlike_texts {P : Program} {w : World} {K : PySem.W.Frag} {mg : Str → Option Value} {base : Heap} (T : Txt K mg) : OkF P w K mg base CX0 (0 + 1) "are_unlike_texts" ["thing", "size", "letters"] (sp0 K F_are_unlike_texts) :=
  ok0 (g := B_are_unlike_texts) T.f_are_unlike_texts c_are_unlike_texts fun f cdv A outer s H E hr => have hu65 := u65 hr; 
(fss_cons (fs_if (L := []) (ft_not (ft_tru (fe_isi (t := "list") tn_list (fe_var 0) (pe_bltn (v := .ty "list") (by rfl) T.b_list (by decide +kernel) rfl) T.b_isinstance)))
(fss_one (fs_ret (L := []) fe_bl))
fss_nil)
(fss_cons (fs_for (L := []) [3, 4, 5] PassesOwn.never (fi_enum T.b_enumerate (fa_cons (fe_var 0) fa_nil) len1) (fg_tup (fgs_cons (fg_name 3 c_are_unlike_texts.nd) (fgs_cons (fg_name 4 c_are_unlike_texts.nd) fgs_nil)))
(fss_cons (fs_if (L := []) (ft_w (fw_or (ft_not (ft_tru (fe_isi (t := "str") tn_str (fe_var 4) (pe_bltn (v := .ty "str") (by rfl) T.b_str (by decide +kernel) rfl) T.b_isinstance))) (fw_or (ft_cmp (op_neA (K := K) hr.units) opd_ne gb_ne (fe_callB (cr_len (K := K)) cd_len T.b_len (fa_cons (fe_var 4) fa_nil)) (fe_var 1)) (fw_or1 (ft_cmp (op_inA (K := K) hu65) opd_inF gb_in (fe_var 4) (fe_sl (fe_var 0) fo_no (fo_yes (fe_var 3))))))))
(fss_one (fs_ret (L := []) fe_bl))
fss_nil)
(fss_one (fs_if (L := []) (ft_not (ft_tru (fe_callB (cr_all_k K rfl) cd_all T.b_all (fa_cons (fe_comp [("sign", 5)] c_are_unlike_texts.nd (fi_any (fe_var 4)) (fun _ _ _ _ _ => (fg_name 5 c_are_unlike_texts.nd)) (fun _ _ _ _ _ => fts_nil) (fun _ _ _ _ _ => (fe_cmp (op_inA (K := K) hu65) opd_inF (fe_var 5) (fe_var 2))) (blkOk_by (own := [("sign", 5)]) (N := n_are_unlike_texts) (sc := defScope s_are_unlike_texts) (by decide +kernel))) fa_nil))))
(fss_one (fs_ret (L := []) fe_bl))
fss_nil))))
(fss_one (fs_ret (L := []) fe_bl))))

noncomputable def B_look_at_tongue : Env → Out := (sSeq (sIf [] (bOr (bNot (bT (eIsi "tuple" (eVar 0)))) (bT (eOp dNe (eCall dLen (aCons (eVar 0) aNil)) (eC (.int 4)))))
(sRaiseI "NoTongue" "part" [] (eC .non))
sPass)
(sSeq (sAsg [] (eVar 0) (tgT [(tgN 1), (tgN 2), (tgN 3), (tgN 4)]))
(sSeq (sIf [] (bNot (bT (eCall F_are_signs (aCons (eVar 1) aNil))))
(sRaiseI "NoTongue" "part" [] (eC (.str "signs")))
sPass)
(sSeq (sOwn 5 [] (eComp [6] (iAny (eVar 1)) (tgN 6) bYes (eOp dIx (eVar 6) (eC (.int 0)))))
(sSeq (sIf [5] (bNot (bT (eCall F_are_unlike_texts (aCons (eVar 2) (aCons (eC (.int 1)) (aCons (eVar 5) aNil))))))
(sRaiseI "NoTongue" "part" [] (eC (.str "firsts")))
sPass)
(sSeq (sIf [5] (bNot (bT (eCall F_are_unlike_texts (aCons (eVar 3) (aCons (eC (.int 2)) (aCons (eVar 5) aNil))))))
(sRaiseI "NoTongue" "part" [] (eC (.str "pairs")))
sPass)
(sIf [] (bOr (bNot (bT (eCall F_is_whole (aCons (eVar 4) aNil)))) (bNot (bT (eChain dLe dLe (eC (.int 1)) (eVar 4) (eC (.int 8))))))
(sRaiseI "NoTongue" "part" [] (eC (.str "longest")))
sPass)))))))
theorem B_look_at_tongue_u (ρ : Env) : B_look_at_tongue ρ = (sSeq (sIf [] (bOr (bNot (bT (eIsi "tuple" (eVar 0)))) (bT (eOp dNe (eCall dLen (aCons (eVar 0) aNil)) (eC (.int 4)))))
(sRaiseI "NoTongue" "part" [] (eC .non))
sPass)
(sSeq (sAsg [] (eVar 0) (tgT [(tgN 1), (tgN 2), (tgN 3), (tgN 4)]))
(sSeq (sIf [] (bNot (bT (eCall F_are_signs (aCons (eVar 1) aNil))))
(sRaiseI "NoTongue" "part" [] (eC (.str "signs")))
sPass)
(sSeq (sOwn 5 [] (eComp [6] (iAny (eVar 1)) (tgN 6) bYes (eOp dIx (eVar 6) (eC (.int 0)))))
(sSeq (sIf [5] (bNot (bT (eCall F_are_unlike_texts (aCons (eVar 2) (aCons (eC (.int 1)) (aCons (eVar 5) aNil))))))
(sRaiseI "NoTongue" "part" [] (eC (.str "firsts")))
sPass)
(sSeq (sIf [5] (bNot (bT (eCall F_are_unlike_texts (aCons (eVar 3) (aCons (eC (.int 2)) (aCons (eVar 5) aNil))))))
(sRaiseI "NoTongue" "part" [] (eC (.str "pairs")))
sPass)
(sIf [] (bOr (bNot (bT (eCall F_is_whole (aCons (eVar 4) aNil)))) (bNot (bT (eChain dLe dLe (eC (.int 1)) (eVar 4) (eC (.int 8))))))
(sRaiseI "NoTongue" "part" [] (eC (.str "longest")))
sPass))))))) ρ := rfl
noncomputable def F_look_at_tongue : List D → Res D := runD (["thing"] : List Str).length n_look_at_tongue.length B_look_at_tongue
theorem ok_look_at_tongue {P : Program} {w : World} {K : PySem.W.Frag} {mg : Str → Option Value} {base : Heap} (T : Txt K mg) : OkF P w K mg base CX0 (5 + 1) "look_at_tongue" ["thing"] (sp0 K F_look_at_tongue) :=
  ok0 (g := B_look_at_tongue) T.f_look_at_tongue c_look_at_tongue fun f cdv A outer s H E hr => 
(fss_cons (fs_if (L := []) (ft_w (fw_or (ft_not (ft_tru (fe_isi (t := "tuple") tn_tuple (fe_var 0) (pe_bltn (v := .ty "tuple") (by rfl) T.b_tuple (by decide +kernel) rfl) T.b_isinstance))) (fw_or1 (ft_cmp (op_neA (K := K) hr.units) opd_ne gb_ne (fe_callB (cr_len (K := K)) cd_len T.b_len (fa_cons (fe_var 0) fa_nil)) fe_int))))
(fss_one (fs_raiseI0 (L := []) (c := "NoTongue") (f := "part") (fa := (eC .non))))
fss_nil)
(fss_cons (fs_asg (L := []) (fe_var 0) (fg_tup (fgs_cons (fg_name 1 c_look_at_tongue.nd) (fgs_cons (fg_name 2 c_look_at_tongue.nd) (fgs_cons (fg_name 3 c_look_at_tongue.nd) (fgs_cons (fg_name 4 c_look_at_tongue.nd) fgs_nil))))))
(fss_cons (fs_if (L := []) (ft_not (ft_tru (fe_call (ok_are_signs T) hr (fa_cons (fe_var 1) fa_nil))))
(fss_one (fs_raiseI0 (L := []) (c := "NoTongue") (f := "part") (fa := (eC (.str "signs")))))
fss_nil)
(fss_cons (fs_ownLc (L := []) 5 [("one", 6)] c_look_at_tongue.nd (fi_any (fe_var 1)) (fun _ _ _ _ _ => (fg_name 6 c_look_at_tongue.nd)) (fun _ _ _ _ _ => fts_nil) (fun _ _ _ _ _ => (fe_ix (ix_A (K := K) (u1 hr.units)) opd_ix (fe_var 6) fe_int)) (blkOk_by (own := [("one", 6)]) (N := n_look_at_tongue) (sc := defScope s_look_at_tongue) (by decide +kernel)) (sw_true rfl rfl rfl (by decide +kernel)))
(fss_cons (fs_if (L := [5]) (ft_not (ft_tru (fe_call (ok_are_unlike_texts T) hr (fa_cons (fe_var 2) (fa_cons fe_int (fa_cons (fe_var 5) fa_nil))))))
(fss_one (fs_raiseI0 (L := []) (c := "NoTongue") (f := "part") (fa := (eC (.str "firsts")))))
fss_nil)
(fss_cons (fs_if (L := [5]) (ft_not (ft_tru (fe_call (ok_are_unlike_texts T) hr (fa_cons (fe_var 3) (fa_cons fe_int (fa_cons (fe_var 5) fa_nil))))))
(fss_one (fs_raiseI0 (L := []) (c := "NoTongue") (f := "part") (fa := (eC (.str "pairs")))))
fss_nil)
(fss_one (fs_if (L := []) (ft_w (fw_or (ft_not (ft_tru (fe_call (ok_is_whole T) hr (fa_cons (fe_var 4) fa_nil)))) (fw_or1 (ft_not (ft_chain op_le opd_le op_le opd_le gb_cmp fe_int (fe_var 4) (fe_gi T.g_LONGEST))))))
(fss_one (fs_raiseI0 (L := []) (c := "NoTongue") (f := "part") (fa := (eC (.str "longest")))))
fss_nil))))))))

end Du

namespace Du
open PySem PySem.Spec PyProof.Rows L2
/-! ### the functions, reckoned step by step: what is not known yet is not opened -/
section
variable {α β : Type} {g h : Env → Out} {ρ ρx : Env} {L : List Nat}
def seqK (h : Env → Out) : Out → Out
  | .nx ρ => h ρ
  | .bk ρ => .bk ρ
  | .ct ρ => .ct ρ
  | .rt d ρ => .rt d ρ
  | .ro d ρ => .ro d ρ
  | .ex x ρ => .ex x ρ
  | .bad => .bad
@[simp] theorem sSeq_e : sSeq g h ρ = seqK h (g ρ) := by unfold sSeq; cases g ρ <;> rfl
@[simp] theorem seqK_nx : seqK h (.nx ρ) = h ρ := id rfl
@[simp] theorem seqK_bk : seqK h (.bk ρ) = .bk ρ := id rfl
@[simp] theorem seqK_ct : seqK h (.ct ρ) = .ct ρ := id rfl
@[simp] theorem seqK_rt {d : D} : seqK h (.rt d ρ) = .rt d ρ := id rfl
@[simp] theorem seqK_ro {d : D} : seqK h (.ro d ρ) = .ro d ρ := id rfl
@[simp] theorem seqK_ex {x : Ex} : seqK h (.ex x ρ) = .ex x ρ := id rfl
@[simp] theorem seqK_bad : seqK h .bad = .bad := id rfl
def atR (k : α → Out) (ρx : Env) : Res α → Out
  | .ok a => k a
  | .exc x => .ex x ρx
  | .bad => .bad
@[simp] theorem atR_ok {k : α → Out} {a : α} : atR k ρx (.ok a) = k a := id rfl
@[simp] theorem atR_exc {k : α → Out} {x : Ex} : atR k ρx (.exc x) = .ex x ρx := id rfl
@[simp] theorem atR_bad {k : α → Out} : atR k ρx .bad = .bad := id rfl
theorem eAt_e {f : VEnv → Res α} {k : α → Out} : eAt L f ρ k = atR k (shut L ρ) (f (view L ρ)) := by unfold eAt atR; cases f (view L ρ) <;> rfl
def bd (f : α → Res β) : Res α → Res β
  | .ok a => f a
  | .exc x => .exc x
  | .bad => .bad
@[simp] theorem bd_ok {f : α → Res β} {a : α} : bd f (.ok a) = f a := id rfl
@[simp] theorem bd_exc {f : α → Res β} {x : Ex} : bd f (.exc x) = .exc x := id rfl
@[simp] theorem bd_bad {f : α → Res β} : bd f .bad = .bad := id rfl
theorem bind_e {f : α → Res β} {r : Res α} : r.bind f = bd f r := rfl
/-! slots -/
@[simp] theorem view_e : view L ρ = viewI L 0 ρ := id rfl
@[simp] theorem viewI_nil {n : Nat} : viewI L n [] = [] := id rfl
@[simp] theorem viewI_none {n : Nat} : viewI L n (none :: ρ) = none :: viewI L (n + 1) ρ := id rfl
@[simp] theorem viewI_frz {n : Nat} {d : D} : viewI L n (some (.frz d) :: ρ) = some d :: viewI L (n + 1) ρ := id rfl
@[simp] theorem viewI_own {n : Nat} {t : Bool} {d : D} : viewI L n (some (.own t d) :: ρ) = (if L.contains n = true then some d else none) :: viewI L (n + 1) ρ := id rfl
@[simp] theorem shut_e : shut L ρ = shutI L 0 ρ := id rfl
@[simp] theorem shutI_nil {n : Nat} : shutI L n [] = [] := id rfl
@[simp] theorem shutI_none {n : Nat} : shutI L n (none :: ρ) = none :: shutI L (n + 1) ρ := id rfl
@[simp] theorem shutI_frz {n : Nat} {d : D} : shutI L n (some (.frz d) :: ρ) = some (.frz d) :: shutI L (n + 1) ρ := id rfl
@[simp] theorem shutI_own {n : Nat} {t : Bool} {d : D} : shutI L n (some (.own t d) :: ρ) = (if L.contains n = true then some (.frz d) else some (.own t d)) :: shutI L (n + 1) ρ := id rfl
@[simp] theorem aft_e {d : D} : aft L d ρ = if imm d = true then ρ else shut L ρ := id rfl
@[simp] theorem aftL_e {ds : List D} : aftL L ds ρ = if imms ds = true then ρ else shut L ρ := id rfl
@[simp] theorem aftO_e {d : D} : aftO L d ρ = if immO d = true then ρ else shut L ρ := id rfl
@[simp] theorem imm_non : imm .non = true := id rfl
@[simp] theorem imm_bl {b : Bool} : imm (.bl b) = true := id rfl
@[simp] theorem imm_int {i : Int} : imm (.int i) = true := id rfl
@[simp] theorem imm_str {z : Str} : imm (.str z) = true := id rfl
@[simp] theorem imm_lst {ds : List D} : imm (.lst ds) = false := id rfl
@[simp] theorem imm_scr {ds : List Int} : imm (.scr ds) = false := id rfl
@[simp] theorem imm_dct {t : Bool} {ds : List (D × D)} : imm (.dct t ds) = false := id rfl
@[simp] theorem imm_tup {ds : List D} : imm (.tup ds) = imms ds := id rfl
@[simp] theorem imms_nil : imms [] = true := id rfl
@[simp] theorem imms_cons {d : D} {ds : List D} : imms (d :: ds) = (imm d && imms ds) := id rfl
@[simp] theorem immO_lst {ds : List D} : immO (.lst ds) = imms ds := id rfl
@[simp] theorem immO_dct {t : Bool} {ds : List (D × D)} : immO (.dct t ds) = imms (ds.map (·.2)) := id rfl
@[simp] theorem setS_nil : setS ρ [] = ρ := id rfl
@[simp] theorem setS_cons {p : Nat × D} {ps : List (Nat × D)} : setS ρ (p :: ps) = setS (ρ.set p.1 (some (.frz p.2))) ps := id rfl
@[simp] theorem clr_nil : clr [] ρ = ρ := id rfl
@[simp] theorem clr_cons {i : Nat} {l : List Nat} : clr (i :: l) ρ = clr l (ρ.set i none) := id rfl
@[simp] theorem setAllD_nil {ρ : VEnv} : setAllD ρ [] = ρ := id rfl
@[simp] theorem setAllD_cons {ρ : VEnv} {p : Nat × D} {ps : List (Nat × D)} : setAllD ρ (p :: ps) = setAllD (ρ.set p.1 (some p.2)) ps := id rfl
@[simp] theorem wipeD_nil {ρ : VEnv} : wipeD ρ [] = ρ := id rfl
@[simp] theorem wipeD_cons {ρ : VEnv} {v : Nat} {vs : List Nat} : wipeD ρ (v :: vs) = (wipeD ρ vs).set v none := id rfl
@[simp] theorem wipeS_nil : wipeS ρ [] = ρ := id rfl
@[simp] theorem wipeS_cons {v : Nat} {vs : List Nat} : wipeS ρ (v :: vs) = (wipeS ρ vs).set v none := id rfl
@[simp] theorem tgN_e {i : Nat} {d : D} : tgN i d = .ok [(i, d)] := id rfl
@[simp] theorem tgT_e {ts : List Tgt} {ds : List D} : tgT ts (.tup ds) = tgL ts ds := id rfl
@[simp] theorem tgL_nil : tgL [] [] = .ok [] := id rfl
def tgC (ts : List Tgt) (ds : List D) (a : List (Nat × D)) : Res (List (Nat × D)) := (tgL ts ds).bind fun b => .ok (a ++ b)
@[simp] theorem tgL_cons {t : Tgt} {ts : List Tgt} {d : D} {ds : List D} : tgL (t :: ts) (d :: ds) = bd (tgC ts ds) (t d) := id rfl
def appC' (a : List (Nat × D)) (b : List (Nat × D)) : Res (List (Nat × D)) := .ok (a ++ b)
@[simp] theorem appC'_e {a b : List (Nat × D)} : appC' a b = .ok (a ++ b) := id rfl
@[simp] theorem tgC_e {ts : List Tgt} {ds : List D} {a : List (Nat × D)} : tgC ts ds a = bd (appC' a) (tgL ts ds) := id rfl
/-! statements -/
def ifC (g h : Env → Out) (ρ : Env) (b : Bool) : Out := if b = true then g ρ else h ρ
@[simp] theorem sIf_e {c : VEnv → Res Bool} : sIf L c g h ρ = atR (ifC g h ρ) (shut L ρ) (c (view L ρ)) := eAt_e
@[simp] theorem ifC_t : ifC g h ρ true = g ρ := id rfl
@[simp] theorem ifC_f : ifC g h ρ false = h ρ := id rfl
theorem ifC_e {b : Bool} : ifC g h ρ b = if b = true then g ρ else h ρ := rfl
@[simp] theorem sPass_e : sPass ρ = .nx ρ := id rfl
@[simp] theorem sRetN_e : sRetN ρ = .rt .non ρ := id rfl
@[simp] theorem sBreak_e : sBreak ρ = .bk ρ := id rfl
@[simp] theorem sCont_e : sCont ρ = .ct ρ := id rfl
@[simp] theorem sRaise_e {x : Ex} : sRaise x ρ = .ex x ρ := id rfl
def asgD (ρ : Env) : Res (List (Nat × D)) → Out
  | .ok as => .nx (setS ρ as)
  | _ => .bad
@[simp] theorem asgD_ok {as : List (Nat × D)} : asgD ρ (.ok as) = .nx (setS ρ as) := id rfl
def asgC (L : List Nat) (ρ : Env) (tg : Tgt) (d : D) : Out := asgD (aft L d ρ) (tg d)
@[simp] theorem asgC_e {tg : Tgt} {d : D} : asgC L ρ tg d = asgD (aft L d ρ) (tg d) := id rfl
@[simp] theorem sAsg_e {f : VEnv → Res D} {tg : Tgt} : sAsg L f tg ρ = atR (asgC L ρ tg) (shut L ρ) (f (view L ρ)) := eAt_e
def exprC (L : List Nat) (ρ : Env) (d : D) : Out := .nx (aft L d ρ)
@[simp] theorem exprC_e {d : D} : exprC L ρ d = .nx (aft L d ρ) := id rfl
@[simp] theorem sExpr_e {f : VEnv → Res D} : sExpr L f ρ = atR (exprC L ρ) (shut L ρ) (f (view L ρ)) := eAt_e
def retC (L : List Nat) (ρ : Env) (d : D) : Out := .rt d (aft L d ρ)
@[simp] theorem retC_e {d : D} : retC L ρ d = .rt d (aft L d ρ) := id rfl
@[simp] theorem sRet_e {f : VEnv → Res D} : sRet L f ρ = atR (retC L ρ) (shut L ρ) (f (view L ρ)) := eAt_e
def retOC (L : List Nat) (ρ : Env) (d : D) : Out := .ro d (aftO L d ρ)
@[simp] theorem retOC_e {d : D} : retOC L ρ d = .ro d (aftO L d ρ) := id rfl
@[simp] theorem sRetO_e {f : VEnv → Res D} : sRetO L f ρ = atR (retOC L ρ) (shut L ρ) (f (view L ρ)) := eAt_e
def retSC (ρ : Env) (i : Nat) : Option (Option Slot) → Out
  | some (some (.own _ d)) => .ro d (ρ.set i none)
  | _ => .bad
@[simp] theorem retSC_e {i : Nat} {t : Bool} {d : D} : retSC ρ i (some (some (.own t d))) = .ro d (ρ.set i none) := id rfl
@[simp] theorem sRetS_e {i : Nat} : sRetS i ρ = retSC ρ i (ρ[i]?) := id rfl
def ownC (i : Nat) (L : List Nat) (ρ : Env) (d : D) : Out := .nx ((aftO L d ρ).set i (some (.own false d)))
@[simp] theorem ownC_e {i : Nat} {d : D} : ownC i L ρ d = .nx ((aftO L d ρ).set i (some (.own false d))) := id rfl
@[simp] theorem sOwn_e {i : Nat} {f : VEnv → Res D} : sOwn i L f ρ = atR (ownC i L ρ) (shut L ρ) (f (view L ρ)) := eAt_e
def parC (i j : Nat) (L : List Nat) (ρ : Env) : List D → Out
  | [a, b] => .nx (((aftL L [a, b] ρ).set i (some (.frz a))).set j (some (.frz b)))
  | _ => .bad
@[simp] theorem parC_e {i j : Nat} {a b : D} : parC i j L ρ [a, b] = .nx (((aftL L [a, b] ρ).set i (some (.frz a))).set j (some (.frz b))) := id rfl
@[simp] theorem sPar_e {i j : Nat} {f : VEnv → Res (List D)} : sPar i j L f ρ = atR (parC i j L ρ) (shut L ρ) (f (view L ρ)) := by
  unfold sPar
  rw [eAt_e]
  congr 1
  funext as
  rcases as with _ | ⟨a, _ | ⟨b, _ | _⟩⟩ <;> rfl
def ownLC : Option (Option Slot) → Option (Bool × List D)
  | some (some (.own t (.lst ds))) => some (t, ds)
  | _ => none
@[simp] theorem ownL_e {i : Nat} : ownL ρ i = ownLC (ρ[i]?) := id rfl
@[simp] theorem ownLC_e {t : Bool} {ds : List D} : ownLC (some (some (.own t (.lst ds)))) = some (t, ds) := id rfl
def ownSC : Option (Option Slot) → Option (Bool × D)
  | some (some (.own t o)) => some (t, o)
  | _ => none
@[simp] theorem ownS_e {i : Nat} : ownS ρ i = ownSC (ρ[i]?) := id rfl
@[simp] theorem ownSC_e {t : Bool} {d : D} : ownSC (some (some (.own t d))) = some (t, d) := id rfl
def needC (g : Env → Out) (ρ : Env) : Option (Bool × List D) → Out
  | some _ => g ρ
  | none => .bad
@[simp] theorem need_e {i : Nat} : need i g ρ = needC g ρ (ownL ρ i) := id rfl
@[simp] theorem needC_e {x : Bool × List D} : needC g ρ (some x) = g ρ := id rfl
def chgT (ρ : Env) (i : Nat) (t : Bool) : Option (List D) → Out
  | some es => .nx (ρ.set i (some (.own t (.lst es))))
  | none => .bad
@[simp] theorem chgT_e {i : Nat} {t : Bool} {es : List D} : chgT ρ i t (some es) = .nx (ρ.set i (some (.own t (.lst es)))) := id rfl
def chgC (ρ : Env) (i : Nat) (f : List D → Option (List D)) : Option (Bool × List D) → Out
  | some (t, ds) => chgT ρ i t (f ds)
  | none => .bad
@[simp] theorem chgC_e {i : Nat} {f : List D → Option (List D)} {t : Bool} {ds : List D} : chgC ρ i f (some (t, ds)) = chgT ρ i t (f ds) := id rfl
@[simp] theorem chg_e {i : Nat} {f : List D → Option (List D)} : chg ρ i f = chgC ρ i f (ownL ρ i) := id rfl
def appF (d : D) (ds : List D) : Option (List D) := if fit ds.length = true then some (ds ++ [d]) else none
@[simp] theorem appF_e {d : D} {ds : List D} (h : ds.length ≤ 16777215) : appF d ds = some (ds ++ [d]) := if_pos (fit_of h)
def appC (i : Nat) (L : List Nat) (ρ : Env) (d : D) : Out := chg (aft L d ρ) i (appF d)
@[simp] theorem appC_e {i : Nat} {d : D} : appC i L ρ d = chg (aft L d ρ) i (appF d) := id rfl
@[simp] theorem sApp_e {i : Nat} {f : VEnv → Res D} : sApp i L f ρ = atR (appC i L ρ) (shut L ρ) (f (view L ρ)) := eAt_e
def putF (n : Int) (d : D) (ds : List D) : Option (List D) := match ixN ds.length n with
  | some j => some (ds.set j d)
  | none => none
@[simp] theorem putF_0 {d e : D} {ds : List D} : putF 0 d (e :: ds) = some (d :: ds) := by simp [putF, ixN]
@[simp] theorem putF_1 {d e e2 : D} {ds : List D} : putF 1 d (e :: e2 :: ds) = some (e :: d :: ds) := by
  unfold putF ixN
  rw [if_pos (by decide), if_pos (by simp only [List.length_cons]; omega)]
  rfl
def putE (i : Nat) (ρ : Env) (d : D) : D → Out
  | .int n => chg ρ i (putF n d)
  | _ => .bad
@[simp] theorem putE_e {i : Nat} {d : D} {n : Int} : putE i ρ d (.int n) = chg ρ i (putF n d) := id rfl
def putD' (i : Nat) (fk : VEnv → Res D) (d : D) (ρ : Env) : Out := atR (putE i ρ d) (shut [] ρ) (fk (view [] ρ))
@[simp] theorem putD'_e {i : Nat} {fk : VEnv → Res D} {d : D} : putD' i fk d ρ = atR (putE i ρ d) (shut [] ρ) (fk (view [] ρ)) := id rfl
def putC (i : Nat) (L : List Nat) (ρ : Env) (fk : VEnv → Res D) (d : D) : Out := need i (putD' i fk d) (aft L d ρ)
@[simp] theorem putC_e {i : Nat} {fk : VEnv → Res D} {d : D} : putC i L ρ fk d = need i (putD' i fk d) (aft L d ρ) := id rfl
theorem putD'_f {i : Nat} {fk : VEnv → Res D} {d : D} : (fun ρ' => eAt [] fk ρ' fun n => match n with
  | .int n => chg ρ' i fun ds => match ixN ds.length n with
    | some j => some (ds.set j d)
    | none => none
  | _ => .bad) = putD' i fk d := by
  funext ρ'
  rw [eAt_e]
  unfold putD'
  congr 1
@[simp] theorem sPutL_e {i : Nat} {fv fk : VEnv → Res D} : sPutL i L fv fk ρ = atR (putC i L ρ fk) (shut L ρ) (fv (view L ρ)) := by
  unfold sPutL
  rw [eAt_e]
  congr 1
/-! expressions -/
def varC : Option (Option D) → Res D
  | some (some d) => .ok d
  | _ => .bad
@[simp] theorem eVar_e {i : Nat} {ρ : VEnv} : eVar i ρ = varC (ρ[i]?) := id rfl
@[simp] theorem varC_e {d : D} : varC (some (some d)) = .ok d := id rfl
@[simp] theorem eC_e {d : D} {ρ : VEnv} : eC d ρ = .ok d := id rfl
def op2 (g : D → D → Res D) : Res D → Res D → Res D
  | .ok a, .ok b => g a b
  | .ok _, .exc x => .exc x
  | .exc x, _ => .exc x
  | _, _ => .bad
@[simp] theorem op2_ok {g : D → D → Res D} {a b : D} : op2 g (.ok a) (.ok b) = g a b := id rfl
@[simp] theorem eOp_e {g : D → D → Res D} {fa fb : VEnv → Res D} {ρ : VEnv} : eOp g fa fb ρ = op2 g (fa ρ) (fb ρ) := by unfold eOp; cases fa ρ <;> cases fb ρ <;> rfl
@[simp] theorem eUn_e {g : D → Res D} {fa : VEnv → Res D} {ρ : VEnv} : eUn g fa ρ = bd g (fa ρ) := id rfl
@[simp] theorem eCall_e {g : List D → Res D} {fa : VEnv → Res (List D)} {ρ : VEnv} : eCall g fa ρ = bd g (fa ρ) := id rfl
@[simp] theorem aNil_e {ρ : VEnv} : aNil ρ = .ok [] := id rfl
def cons2 : Res D → Res (List D) → Res (List D)
  | .ok a, .ok as => .ok (a :: as)
  | .ok _, .exc x => .exc x
  | .exc x, _ => .exc x
  | _, _ => .bad
@[simp] theorem cons2_ok {a : D} {as : List D} : cons2 (.ok a) (.ok as) = .ok (a :: as) := id rfl
@[simp] theorem aCons_e {f : VEnv → Res D} {g : VEnv → Res (List D)} {ρ : VEnv} : aCons f g ρ = cons2 (f ρ) (g ρ) := by unfold aCons; cases f ρ <;> cases g ρ <;> rfl
@[simp] theorem fit_e {n : Nat} (h : n ≤ 16777215) : fit n = true := fit_of h
def tupC (as : List D) : Res D := if fit as.length = true then .ok (.tup as) else .bad
@[simp] theorem tupC_e {as : List D} (h : as.length ≤ 16777215) : tupC as = .ok (.tup as) := if_pos (fit_of h)
@[simp] theorem eTup_e {f : VEnv → Res (List D)} {ρ : VEnv} : eTup f ρ = bd tupC (f ρ) := id rfl
def lstC (as : List D) : Res D := if fit as.length = true then .ok (.lst as) else .bad
@[simp] theorem lstC_e {as : List D} (h : as.length ≤ 16777215) : lstC as = .ok (.lst as) := if_pos (fit_of h)
@[simp] theorem eLst_e {f : VEnv → Res (List D)} {ρ : VEnv} : eLst f ρ = bd lstC (f ρ) := id rfl
def andC (g : VEnv → Res D) (ρ : VEnv) (a : D) (b : Bool) : Res D := if b = true then g ρ else .ok a
@[simp] theorem andC_t {g : VEnv → Res D} {ρ : VEnv} {a : D} : andC g ρ a true = g ρ := id rfl
@[simp] theorem andC_f {g : VEnv → Res D} {ρ : VEnv} {a : D} : andC g ρ a false = .ok a := id rfl
def andK (g : VEnv → Res D) (ρ : VEnv) (a : D) : Res D := bd (andC g ρ a) (dTru a)
@[simp] theorem andK_e {g : VEnv → Res D} {ρ : VEnv} {a : D} : andK g ρ a = bd (andC g ρ a) (dTru a) := id rfl
@[simp] theorem eAnd_e {f g : VEnv → Res D} {ρ : VEnv} : eAnd f g ρ = bd (andK g ρ) (f ρ) := id rfl
def orC (g : VEnv → Res D) (ρ : VEnv) (a : D) (b : Bool) : Res D := if b = true then .ok a else g ρ
@[simp] theorem orC_t {g : VEnv → Res D} {ρ : VEnv} {a : D} : orC g ρ a true = .ok a := id rfl
@[simp] theorem orC_f {g : VEnv → Res D} {ρ : VEnv} {a : D} : orC g ρ a false = g ρ := id rfl
def orK (g : VEnv → Res D) (ρ : VEnv) (a : D) : Res D := bd (orC g ρ a) (dTru a)
@[simp] theorem orK_e {g : VEnv → Res D} {ρ : VEnv} {a : D} : orK g ρ a = bd (orC g ρ a) (dTru a) := id rfl
@[simp] theorem eOr_e {f g : VEnv → Res D} {ρ : VEnv} : eOr f g ρ = bd (orK g ρ) (f ρ) := id rfl
def notC (b : Bool) : Res D := .ok (.bl (!b))
@[simp] theorem notC_e {b : Bool} : notC b = .ok (.bl (!b)) := id rfl
def notK (a : D) : Res D := bd notC (dTru a)
@[simp] theorem notK_e {a : D} : notK a = bd notC (dTru a) := id rfl
@[simp] theorem eNot_e {f : VEnv → Res D} {ρ : VEnv} : eNot f ρ = bd notK (f ρ) := id rfl
@[simp] theorem bT_e {f : VEnv → Res D} {ρ : VEnv} : bT f ρ = bd dTru (f ρ) := id rfl
def bnotC (b : Bool) : Res Bool := .ok (!b)
@[simp] theorem bnotC_e {b : Bool} : bnotC b = .ok (!b) := id rfl
@[simp] theorem bNot_e {f : VEnv → Res Bool} {ρ : VEnv} : bNot f ρ = bd bnotC (f ρ) := id rfl
def bandC (g : VEnv → Res Bool) (ρ : VEnv) (b : Bool) : Res Bool := if b = true then g ρ else .ok false
@[simp] theorem bandC_t {g : VEnv → Res Bool} {ρ : VEnv} : bandC g ρ true = g ρ := id rfl
@[simp] theorem bandC_f {g : VEnv → Res Bool} {ρ : VEnv} : bandC g ρ false = .ok false := id rfl
@[simp] theorem bAnd_e {f g : VEnv → Res Bool} {ρ : VEnv} : bAnd f g ρ = bd (bandC g ρ) (f ρ) := id rfl
def borC (g : VEnv → Res Bool) (ρ : VEnv) (b : Bool) : Res Bool := if b = true then .ok true else g ρ
@[simp] theorem borC_t {g : VEnv → Res Bool} {ρ : VEnv} : borC g ρ true = .ok true := id rfl
@[simp] theorem borC_f {g : VEnv → Res Bool} {ρ : VEnv} : borC g ρ false = g ρ := id rfl
@[simp] theorem bOr_e {f g : VEnv → Res Bool} {ρ : VEnv} : bOr f g ρ = bd (borC g ρ) (f ρ) := id rfl
@[simp] theorem bYes_e {ρ : VEnv} : bYes ρ = .ok true := id rfl
def eifC (f g : VEnv → Res D) (ρ : VEnv) (b : Bool) : Res D := if b = true then f ρ else g ρ
@[simp] theorem eifC_t {f g : VEnv → Res D} {ρ : VEnv} : eifC f g ρ true = f ρ := id rfl
@[simp] theorem eifC_f {f g : VEnv → Res D} {ρ : VEnv} : eifC f g ρ false = g ρ := id rfl
@[simp] theorem eIf_e {c : VEnv → Res Bool} {f g : VEnv → Res D} {ρ : VEnv} : eIf c f g ρ = bd (eifC f g ρ) (c ρ) := id rfl
@[simp] theorem dBl_e {b : Bool} : dBl (.bl b) = .ok b := id rfl
def chE (g' : D → D → Res D) (fc : VEnv → Res D) (ρ : VEnv) (b : D) (k : Bool) : Res D := if k = true then bd (g' b) (fc ρ) else .ok (.bl false)
@[simp] theorem chE_t {g' : D → D → Res D} {fc : VEnv → Res D} {ρ : VEnv} {b : D} : chE g' fc ρ b true = bd (g' b) (fc ρ) := id rfl
@[simp] theorem chE_f {g' : D → D → Res D} {fc : VEnv → Res D} {ρ : VEnv} {b : D} : chE g' fc ρ b false = .ok (.bl false) := id rfl
def chB (g g' : D → D → Res D) (fc : VEnv → Res D) (ρ : VEnv) (a b : D) : Res D := bd (chE g' fc ρ b) (bd dBl (g a b))
@[simp] theorem chB_e {g g' : D → D → Res D} {fc : VEnv → Res D} {ρ : VEnv} {a b : D} : chB g g' fc ρ a b = bd (chE g' fc ρ b) (bd dBl (g a b)) := id rfl
@[simp] theorem eChain_e {g g' : D → D → Res D} {fa fb fc : VEnv → Res D} {ρ : VEnv} : eChain g g' fa fb fc ρ = op2 (chB g g' fc ρ) (fa ρ) (fb ρ) := by
  unfold eChain
  cases fa ρ with
  | ok a =>
    cases fb ρ with
    | ok b =>
      show (g a b).bind _ = bd _ (bd dBl (g a b))
      cases g a b with
      | ok z =>
        show (dBl z).bind _ = bd _ (dBl z)
        cases dBl z <;> rfl
      | exc x => rfl
      | bad => rfl
    | exc x => rfl
    | bad => rfl
  | exc x => rfl
  | bad => rfl
@[simp] theorem eIsi_e {t : String} {f : VEnv → Res D} {ρ : VEnv} : eIsi t f ρ = bd (isKind t) (f ρ) := id rfl
@[simp] theorem isK_non {t : String} : isKind t .non = .ok (.bl ("NoneType" == t || ("NoneType" == "bool" && t == "int"))) := id rfl
@[simp] theorem isK_bl {t : String} {b : Bool} : isKind t (.bl b) = .ok (.bl ("bool" == t || ("bool" == "bool" && t == "int"))) := id rfl
@[simp] theorem isK_int {t : String} {b : Int} : isKind t (.int b) = .ok (.bl ("int" == t || ("int" == "bool" && t == "int"))) := id rfl
@[simp] theorem isK_str {t : String} {b : Str} : isKind t (.str b) = .ok (.bl ("str" == t || ("str" == "bool" && t == "int"))) := id rfl
@[simp] theorem isK_lst {t : String} {b : List D} : isKind t (.lst b) = .ok (.bl ("list" == t || ("list" == "bool" && t == "int"))) := id rfl
@[simp] theorem isK_tup {t : String} {b : List D} : isKind t (.tup b) = .ok (.bl ("tuple" == t || ("tuple" == "bool" && t == "int"))) := id rfl
@[simp] theorem isK_dct {t : String} {k : Bool} {b : List (D × D)} : isKind t (.dct k b) = .ok (.bl ("dict" == t || ("dict" == "bool" && t == "int"))) := id rfl
@[simp] theorem dTru_non : dTru .non = .ok false := id rfl
@[simp] theorem dTru_bl {b : Bool} : dTru (.bl b) = .ok b := id rfl
@[simp] theorem dTru_int {i : Int} : dTru (.int i) = .ok (i != 0) := id rfl
@[simp] theorem dTru_lst {ds : List D} : dTru (.lst ds) = .ok (!ds.isEmpty) := id rfl
@[simp] theorem dTru_tup {ds : List D} : dTru (.tup ds) = .ok (!ds.isEmpty) := id rfl
/-! operations -/
@[simp] theorem dAdd_int {a b : Int} : dAdd (.int a) (.int b) = .ok (.int (a + b)) := id rfl
@[simp] theorem dAdd_str {a b : Str} (h : a.length + b.length ≤ 16777215) : dAdd (.str a) (.str b) = .ok (.str (a ++ b)) := if_pos (fit_of h)
@[simp] theorem dAdd_lst {a b : List D} (h : a.length + b.length ≤ 16777215) : dAdd (.lst a) (.lst b) = .ok (.lst (a ++ b)) := if_pos (fit_of h)
@[simp] theorem dCat_lst {a b : List D} (h : a.length + b.length ≤ 16777215) : dCat (.lst a) (.lst b) = .ok (.lst (a ++ b)) := if_pos (fit_of h)
@[simp] theorem dSub_int {a b : Int} : dSub (.int a) (.int b) = .ok (.int (a - b)) := id rfl
@[simp] theorem dMul_int {a b : Int} (h : CMulA a b) : dMul (.int a) (.int b) = .ok (.int (a * b)) := if_pos h
@[simp] theorem dDiv_int {a b : Int} (h : CDivW a b) : dDiv (.int a) (.int b) = .ok (.int (a / b)) := if_pos h
@[simp] theorem dMod_int {a b : Int} (h : 0 < b) : dMod (.int a) (.int b) = .ok (.int (a % b)) := if_pos h
@[simp] theorem dLt_int {a b : Int} : dLt (.int a) (.int b) = .ok (.bl (decide (a < b))) := id rfl
@[simp] theorem dLe_int {a b : Int} : dLe (.int a) (.int b) = .ok (.bl (decide (a ≤ b))) := id rfl
@[simp] theorem dGt_int {a b : Int} : dGt (.int a) (.int b) = .ok (.bl (decide (b < a))) := id rfl
@[simp] theorem dGe_int {a b : Int} : dGe (.int a) (.int b) = .ok (.bl (decide (b ≤ a))) := id rfl
@[simp] theorem dEq_int {a b : Int} : dEq (.int a) (.int b) = .ok (.bl (decide (a = b))) := id rfl
@[simp] theorem dNe_int {a b : Int} : dNe (.int a) (.int b) = .ok (.bl (!decide (a = b))) := id rfl
@[simp] theorem dEq_str {a b : Str} : dEq (.str a) (.str b) = .ok (.bl (decide (a = b))) := id rfl
@[simp] theorem dNe_str {a b : Str} : dNe (.str a) (.str b) = .ok (.bl (!decide (a = b))) := id rfl
@[simp] theorem dIsN_e {a : D} : dIsN a .non = .ok (.bl (isNon a)) := id rfl
@[simp] theorem dNotN_e {a : D} : dNotN a .non = .ok (.bl (!isNon a)) := id rfl
@[simp] theorem isNon_non : isNon .non = true := id rfl
@[simp] theorem isNon_int {i : Int} : isNon (.int i) = false := id rfl
@[simp] theorem isNon_str {i : Str} : isNon (.str i) = false := id rfl
@[simp] theorem isNon_tup {i : List D} : isNon (.tup i) = false := id rfl
@[simp] theorem isNon_lst {i : List D} : isNon (.lst i) = false := id rfl
@[simp] theorem isNon_bl {i : Bool} : isNon (.bl i) = false := id rfl
def ixC : Option D → Res D
  | some d => .ok d
  | none => .bad
@[simp] theorem ixC_e {d : D} : ixC (some d) = .ok d := id rfl
@[simp] theorem dIx_lst {ds : List D} {i : Int} : dIx (.lst ds) (.int i) = ixC (atI ds i) := by
  show (match atI ds i with | some d => Res.ok d | none => .bad) = _
  cases atI ds i <;> rfl
@[simp] theorem dIx_tup {ds : List D} {i : Int} : dIx (.tup ds) (.int i) = ixC (atI ds i) := by
  show (match atI ds i with | some d => Res.ok d | none => .bad) = _
  cases atI ds i <;> rfl
theorem atI_nat {α : Type} {xs : List α} {i : Int} (h : 0 ≤ i) : atI xs i = xs[i.toNat]? := by
  unfold atI ixN
  rw [if_pos h]
  by_cases c : i < xs.length
  · rw [if_pos c]; rfl
  · rw [if_neg c, List.getElem?_eq_none (by omega)]; rfl
@[simp] theorem atI_0 {α : Type} {x : α} {xs : List α} : atI (x :: xs) 0 = some x := by rw [atI_nat (by decide)]; rfl
@[simp] theorem atI_1 {α : Type} {x y : α} {xs : List α} : atI (x :: y :: xs) 1 = some y := by rw [atI_nat (by decide)]; rfl
@[simp] theorem atI_2 {α : Type} {x y z : α} {xs : List α} : atI (x :: y :: z :: xs) 2 = some z := by rw [atI_nat (by decide)]; rfl
@[simp] theorem atI_3 {α : Type} {x y z w : α} {xs : List α} : atI (x :: y :: z :: w :: xs) 3 = some w := by rw [atI_nat (by decide)]; rfl
@[simp] theorem dAbs_e {i : Int} : dAbs [.int i] = .ok (.int (if i < 0 then -i else i)) := id rfl
theorem log_lt {n k : Nat} (h : n < 2 ^ k) (hk : 0 < k) : n.log2 < k := by
  by_cases z : n = 0
  · subst z; simpa using hk
  · exact (Nat.log2_lt z).mpr h
theorem cmul {a b : Int} (h1 : -(2 ^ 64) < a) (h2 : a < 2 ^ 64) (h3 : -(2 ^ 64) < b) (h4 : b < 2 ^ 64) : CMulA a b := by
  have x : a.natAbs < 2 ^ 64 := by omega
  have y : b.natAbs < 2 ^ 64 := by omega
  have := log_lt x (by decide)
  have := log_lt y (by decide)
  refine .inl ?_
  unfold CMulW
  omega
theorem cmulL {a b : Int} (h1 : -(2 ^ 64) < a) (h2 : a < 2 ^ 64) : CMulA a b := .inr (.inl ⟨h1, h2⟩)
theorem cmulR {a b : Int} (h1 : -(2 ^ 64) < b) (h2 : b < 2 ^ 64) : CMulA a b := .inr (.inr ⟨h1, h2⟩)
theorem cdiv {a b : Int} (h1 : 0 < b) (h2 : b < 2 ^ 64) : CDivW a b := by
  have y : b.natAbs < 2 ^ 64 := by omega
  have := log_lt y (by decide)
  exact ⟨h1, by omega⟩
@[simp] theorem dInt_bl {b : Bool} : dInt [.bl b] = .ok (.int (if b then 1 else 0)) := id rfl
@[simp] theorem dInt_int {b : Int} : dInt [.int b] = .ok (.int b) := id rfl
@[simp] theorem dPow_int {a b : Int} (h1 : 0 ≤ b) (h2 : b ≤ 1000000) (h3 : a.natAbs < 2 ^ 64) : dPow (.int a) (.int b) = .ok (.int (a ^ b.toNat)) := if_pos ⟨h1, h2, h3⟩
@[simp] theorem dLen_lst {ds : List D} (h : ds.length ≤ 16777215) : dLen [.lst ds] = .ok (.int ds.length) := by
  unfold dLen; first | exact if_pos (fit_of h) | rfl
@[simp] theorem dLen_tup {ds : List D} (h : ds.length ≤ 16777215) : dLen [.tup ds] = .ok (.int ds.length) := by
  unfold dLen; first | exact if_pos (fit_of h) | rfl
@[simp] theorem dLen_scr {ds : List Int} (h : ds.length ≤ 16777215) : dLen [.scr ds] = .ok (.int ds.length) := by
  unfold dLen; first | exact if_pos (fit_of h) | rfl
@[simp] theorem dLen_str {z : Str} (h : z.length ≤ 16777215) : dLen [.str z] = .ok (.int z.length) := by
  unfold dLen; first | exact if_pos (fit_of h) | rfl
theorem dIx_scr {ns : List Int} {i : Int} : dIx (.scr ns) (.int i) = ixC ((atI ns i).map D.int) := by
  show (match atI ns i with | some n => Res.ok (D.int n) | none => .bad) = _
  cases atI ns i <;> rfl
def slC (a : D) : Res (Option Int) → Res (Option Int) → Res D
  | .ok l, .ok h => dSl a l h
  | .ok _, .exc x => .exc x
  | .exc x, _ => .exc x
  | _, _ => .bad
@[simp] theorem slC_ok {a : D} {l h : Option Int} : slC a (.ok l) (.ok h) = dSl a l h := id rfl
def slA (fl fh : VEnv → Res (Option Int)) (ρ : VEnv) (a : D) : Res D := slC a (fl ρ) (fh ρ)
@[simp] theorem slA_e {fl fh : VEnv → Res (Option Int)} {ρ : VEnv} {a : D} : slA fl fh ρ a = slC a (fl ρ) (fh ρ) := id rfl
@[simp] theorem eSl_e {fe : VEnv → Res D} {fl fh : VEnv → Res (Option Int)} {ρ : VEnv} : eSl fe fl fh ρ = bd (slA fl fh ρ) (fe ρ) := by
  unfold eSl
  cases fe ρ with
  | ok a => show (fl ρ).bind _ = slC a (fl ρ) (fh ρ); cases fl ρ <;> cases fh ρ <;> rfl
  | exc x => rfl
  | bad => rfl
@[simp] theorem pNo_e {ρ : VEnv} : pNo ρ = .ok none := id rfl
@[simp] theorem pYes_e {f : VEnv → Res D} {ρ : VEnv} : pYes f ρ = bd dPart (f ρ) := id rfl
@[simp] theorem dPart_e {i : Int} : dPart (.int i) = .ok (some i) := id rfl
@[simp] theorem dNeg_e {i : Int} : dNeg (.int i) = .ok (.int (-i)) := id rfl
def lastL (w : List Nat) : List Nat := match w.getLast? with
  | none => []
  | some a => [a]
@[simp] theorem lastL_nil : lastL [] = [] := id rfl
@[simp] theorem lastL_snoc {w : List Nat} {c : Nat} : lastL (w ++ [c]) = [c] := by unfold lastL; rw [List.getLast?_concat]
theorem lastL_len (w : List Nat) : (lastL w).length ≤ 1 := by unfold lastL; split <;> simp
theorem dSl_last {w : List Nat} (h : w.length ≤ 16777215) : dSl (.str (Dear.txt w)) (some (-1)) none = .ok (.str (Dear.txt (lastL w))) := by
  show (if fit (Dear.txt w).length = true then Res.ok (D.str (cutS (Dear.txt w) (some (-1)) none)) else .bad) = _
  rw [if_pos (fit_of (by rw [Dear.txt_length]; exact h))]
  rcases List.eq_nil_or_concat w with e | ⟨l, c, e⟩
  · subst e; rw [Dear.cut_last0]; rfl
  · subst e; rw [List.concat_eq_append, Dear.cut_last, lastL_snoc]
theorem txt_eq {a b : List Nat} : decide (Dear.txt a = Dear.txt b) = decide (a = b) := by
  by_cases h : a = b
  · subst h; simp
  · rw [decide_eq_false h, decide_eq_false fun e => h (Dear.txt_inj e)]
theorem inL_txts {w : List Nat} {l : List (List Nat)} : inL (.str (Dear.txt w)) (l.map fun v => .str (Dear.txt v)) = decide (w ∈ l) := by
  unfold inL
  induction l with
  | nil => simp
  | cons v r ih =>
    rw [List.map_cons, List.any_cons, ih]
    show (decide (Dear.txt v = Dear.txt w) || _) = _
    rw [txt_eq]
    by_cases h : v = w
    · subst h; simp
    · simp [h, Ne.symm h]
theorem dIn_txts {neg : Bool} {w : List Nat} {l : List (List Nat)} : dIn neg (.str (Dear.txt w)) (.lst (l.map fun v => .str (Dear.txt v))) = .ok (.bl (neg ^^ decide (w ∈ l))) := by
  show (if _ then Res.ok (D.bl (neg ^^ inL _ _)) else .bad) = _
  rw [inL_txts, if_pos]
  have : (l.map fun v => D.str (Dear.txt v)).all flatD = true := by
    rw [List.all_map]
    exact List.all_eq_true.mpr fun _ _ => rfl
  rw [this]
  rfl
/-! runs -/
@[simp] theorem outR_nx : outR (.nx ρ) = .ok .non := id rfl
@[simp] theorem outR_rt {d : D} : outR (.rt d ρ) = .ok d := id rfl
@[simp] theorem outR_ro {d : D} : outR (.ro d ρ) = .ok d := id rfl
@[simp] theorem outR_ex {x : Ex} : outR (.ex x ρ) = .exc x := id rfl
@[simp] theorem outO_ro {d : D} : outO (.ro d ρ) = .ok d := id rfl
def ioC (d : D) : Option (Bool × D) → Res (D × D)
  | some (true, o) => .ok (d, o)
  | _ => .bad
@[simp] theorem ioC_e {d o : D} : ioC d (some (true, o)) = .ok (d, o) := id rfl
@[simp] theorem outIO_nx {j : Nat} : outIO j (.nx ρ) = ioC .non (ownS ρ j) := id rfl
@[simp] theorem outIO_rt {j : Nat} {d : D} : outIO j (.rt d ρ) = ioC d (ownS ρ j) := id rfl
theorem runD_e {np n : Nat} {ds : List D} (h : ds.length = np) : runD np n g ds = outR (g (ent n np ds)) := if_pos h
theorem runO_e {np n : Nat} {ds : List D} (h : ds.length = np) : runO np n g ds = outO (g (ent n np ds)) := if_pos h
theorem runIO_e {np n j : Nat} {ds : List D} (h : ds.length = np) : runIO np n j g ds = outIO j (g (entIO n np j ds)) := if_pos h
/-! loops -/
noncomputable def loopK (L : List Nat) (c : VEnv → Res Bool) (g : Env → Out) : Out → Out
  | .nx ρ => sWhile L c g ρ
  | .ct ρ => sWhile L c g ρ
  | .bk ρ => .nx ρ
  | .rt d ρ => .rt d ρ
  | .ro d ρ => .ro d ρ
  | .ex x ρ => .ex x ρ
  | .bad => .bad
@[simp] theorem loopK_nx {c : VEnv → Res Bool} : loopK L c g (.nx ρ) = sWhile L c g ρ := id rfl
@[simp] theorem loopK_ct {c : VEnv → Res Bool} : loopK L c g (.ct ρ) = sWhile L c g ρ := id rfl
@[simp] theorem loopK_bk {c : VEnv → Res Bool} : loopK L c g (.bk ρ) = .nx ρ := id rfl
@[simp] theorem loopK_rt {c : VEnv → Res Bool} {d : D} : loopK L c g (.rt d ρ) = .rt d ρ := id rfl
@[simp] theorem loopK_ro {c : VEnv → Res Bool} {d : D} : loopK L c g (.ro d ρ) = .ro d ρ := id rfl
noncomputable def loopC (L : List Nat) (c : VEnv → Res Bool) (g : Env → Out) (ρ : Env) (b : Bool) : Out := if b = true then loopK L c g (g ρ) else .nx ρ
@[simp] theorem loopC_t {c : VEnv → Res Bool} : loopC L c g ρ true = loopK L c g (g ρ) := id rfl
@[simp] theorem loopC_f {c : VEnv → Res Bool} : loopC L c g ρ false = .nx ρ := id rfl
theorem sWhile_e {c : VEnv → Res Bool} : sWhile L c g ρ = atR (loopC L c g ρ) (shut L ρ) (c (view L ρ)) := by
  rw [sWhile_eq, eAt_e]
  congr 1
  funext b
  unfold loopC
  cases b
  · rfl
  · show loopO _ (g ρ) = loopK _ _ _ (g ρ)
    cases g ρ <;> rfl
def forK (tg : Tgt) (g : Env → Out) (l : List Nat) (ds : List D) : Out → Out
  | .nx ρ => forL tg g l ds (clr l ρ)
  | .ct ρ => forL tg g l ds (clr l ρ)
  | .bk ρ => .nx ρ
  | .rt d ρ => .rt d ρ
  | .ro d ρ => .ro d ρ
  | .ex x ρ => .ex x ρ
  | .bad => .bad
section
variable {tg : Tgt} {l : List Nat} {ds : List D}
@[simp] theorem forK_nx : forK tg g l ds (.nx ρ) = forL tg g l ds (clr l ρ) := id rfl
@[simp] theorem forK_ct : forK tg g l ds (.ct ρ) = forL tg g l ds (clr l ρ) := id rfl
@[simp] theorem forK_bk : forK tg g l ds (.bk ρ) = .nx ρ := id rfl
@[simp] theorem forK_rt {d : D} : forK tg g l ds (.rt d ρ) = .rt d ρ := id rfl
@[simp] theorem forK_ro {d : D} : forK tg g l ds (.ro d ρ) = .ro d ρ := id rfl
@[simp] theorem forK_bad : forK tg g l ds .bad = .bad := id rfl
@[simp] theorem forL_nil : forL tg g l [] ρ = .nx ρ := id rfl
def forT (tg : Tgt) (g : Env → Out) (l : List Nat) (ds : List D) (ρ : Env) : Res (List (Nat × D)) → Out
  | .ok as => forK tg g l ds (g (setS ρ as))
  | _ => .bad
@[simp] theorem forT_ok {as : List (Nat × D)} : forT tg g l ds ρ (.ok as) = forK tg g l ds (g (setS ρ as)) := id rfl
/-- one turn -/
theorem forL_cons {d : D} : forL tg g l (d :: ds) ρ = forT tg g l ds ρ (tg d) := by
  unfold forL forT
  cases tg d with
  | ok as =>
    show loopO _ (g (setS ρ as)) = forK _ _ _ _ (g (setS ρ as))
    cases g (setS ρ as) <;> rfl
  | exc x => rfl
  | bad => rfl
def sForC (L : List Nat) (ρ : Env) (tg : Tgt) (g : Env → Out) (l : List Nat) (ds : List D) : Out := forL tg g l ds (shut L ρ)
@[simp] theorem sForC_e : sForC L ρ tg g l ds = forL tg g l ds (shut L ρ) := id rfl
@[simp] theorem sFor_e {it : VEnv → Res (List D)} : sFor L it tg g l ρ = atR (sForC L ρ tg g l) (shut L ρ) (it (view L ρ)) := eAt_e
/-- what holds at each turn's start holds behind the last one -/
theorem forL_inv {P : List D → Env → Prop} {ds : List D} {ρ : Env} (h0 : P ds ρ) (hs : ∀ d r ρ, P (d :: r) ρ → ∃ as ρ', tg d = .ok as ∧ (g (setS ρ as) = .nx ρ' ∨ g (setS ρ as) = .ct ρ') ∧ P r (clr l ρ')) : ∃ ρ', forL tg g l ds ρ = .nx ρ' ∧ P [] ρ' := by
  induction ds generalizing ρ with
  | nil => exact ⟨ρ, rfl, h0⟩
  | cons d r ih =>
    obtain ⟨as, ρ', e1, e2, e3⟩ := hs d r ρ h0
    obtain ⟨ρ2, e4, e5⟩ := ih e3
    refine ⟨ρ2, ?_, e5⟩
    rw [forL_cons, e1]
    rcases e2 with e2 | e2
    · rw [forT_ok, e2, forK_nx, e4]
    · rw [forT_ok, e2, forK_ct, e4]
/-- every turn goes on, and changes nothing that stays -/
theorem forL_same {ds : List D} {ρ : Env} (hs : ∀ d ∈ ds, ∃ as ρ', tg d = .ok as ∧ g (setS ρ as) = .nx ρ' ∧ clr l ρ' = ρ) : forL tg g l ds ρ = .nx ρ := by
  induction ds with
  | nil => rfl
  | cons d r ih =>
    obtain ⟨as, ρ', e1, e2, e3⟩ := hs d List.mem_cons_self
    rw [forL_cons, e1, forT_ok, e2, forK_nx, e3]
    exact ih fun x hx => hs x (List.mem_cons_of_mem _ hx)
end
/-! comprehensions -/
theorem compL_of {tg : Tgt} {c : VEnv → Res Bool} {f : VEnv → Res D} {ρ : VEnv} {vs : List Nat} {p : D → Bool} {q : D → D} : ∀ {ds : List D}, (∀ d ∈ ds, ∃ as, tg d = .ok as ∧ as.all (fun p => vs.contains p.1) = true ∧ c (setAllD ρ as) = .ok (p d) ∧ (p d = true → f (setAllD ρ as) = .ok (q d))) → compL tg c f ρ vs ds = .ok ((ds.filter p).map q)
  | [], _ => rfl
  | d :: ds, h => by
    obtain ⟨as, h1, h2, h3, h4⟩ := h d List.mem_cons_self
    have ih := compL_of (ds := ds) fun x hx => h x (List.mem_cons_of_mem _ hx)
    unfold compL
    rw [h1, Res.bind_ok, if_pos h2, h3, Res.bind_ok]
    cases hp : p d with
    | true => rw [if_pos rfl, h4 hp, Res.bind_ok, ih, Res.bind_ok, List.filter_cons, hp, if_pos rfl, List.map_cons]
    | false => rw [if_neg Bool.false_ne_true, ih, List.filter_cons, hp, if_neg Bool.false_ne_true]
theorem eComp_of {tg : Tgt} {c : VEnv → Res Bool} {f : VEnv → Res D} {ρ : VEnv} {vs : List Nat} {it : VEnv → Res (List D)} {ds : List D} (p : D → Bool) (q : D → D) (hi : it ρ = .ok ds) (hl : ds.length ≤ 16777215)
    (h : ∀ d ∈ ds, ∃ as, tg d = .ok as ∧ as.all (fun p => vs.contains p.1) = true ∧ c (setAllD (wipeD ρ vs) as) = .ok (p d) ∧ (p d = true → f (setAllD (wipeD ρ vs) as) = .ok (q d))) : eComp vs it tg c f ρ = .ok (.lst ((ds.filter p).map q)) := by
  unfold eComp
  rw [hi, Res.bind_ok, if_pos (fit_of hl), compL_of h]
  rfl
def itemsC : D → Res (List D) := dItems
@[simp] theorem iAny_e {f : VEnv → Res D} {ρ : VEnv} : iAny f ρ = bd itemsC (f ρ) := id rfl
@[simp] theorem items_lst {ds : List D} : itemsC (.lst ds) = .ok ds := id rfl
@[simp] theorem items_tup {ds : List D} : itemsC (.tup ds) = .ok ds := id rfl
@[simp] theorem items_scr {ns : List Int} : itemsC (.scr ns) = .ok (ns.map D.int) := id rfl
@[simp] theorem items_str {z : Str} : itemsC (.str z) = .ok (signs z) := id rfl
@[simp] theorem iRange_e {f : VEnv → Res (List D)} {ρ : VEnv} : iRange f ρ = bd dRange (f ρ) := id rfl
@[simp] theorem iEnumD_e {f : VEnv → Res (List D)} {ρ : VEnv} : iEnumD f ρ = bd dEnum (f ρ) := id rfl
@[simp] theorem iZipD_e {f : VEnv → Res (List D)} {ρ : VEnv} : iZipD f ρ = bd dZip (f ρ) := id rfl
theorem inR_of {i : Int} (h1 : -(2 ^ 62) ≤ i) (h2 : i < 2 ^ 62) : inR i = true := decide_eq_true ⟨h1, h2⟩
theorem dRange1 {j : Int} (h1 : -(2 ^ 62) ≤ j) (h2 : j < 2 ^ 62) : dRange [.int j] = .ok (rangeD 0 j.toNat) := if_pos (inR_of h1 h2)
theorem dRange2 {i j : Int} (h1 : -(2 ^ 62) ≤ i) (h2 : i < 2 ^ 62) (h3 : -(2 ^ 62) ≤ j) (h4 : j < 2 ^ 62) : dRange [.int i, .int j] = .ok (rangeD i (j - i).toNat) := if_pos (by rw [inR_of h1 h2, inR_of h3 h4]; rfl)
def iDctC (q : List (D × D) → List D) : D → Res (List D) := dDct q
@[simp] theorem iDct_e {q : List (D × D) → List D} {i : Nat} {ρ : VEnv} : iDct q i ρ = bd (iDctC q) (varC (ρ[i]?)) := id rfl
@[simp] theorem iDctC_e {q : List (D × D) → List D} {ds : List (D × D)} : iDctC q (.dct false ds) = .ok (q ds) := id rfl
/-! with state -/
def md (k : α → Env → MO β) : MO α → MO β
  | .ok a ρ => k a ρ
  | .ex x ρ => .ex x ρ
  | .bad => .bad
@[simp] theorem md_ok {k : α → Env → MO β} {a : α} : md k (.ok a ρ) = k a ρ := id rfl
@[simp] theorem md_ex {k : α → Env → MO β} {x : Ex} : md k (.ex x ρ) = .ex x ρ := id rfl
@[simp] theorem md_bad {k : α → Env → MO β} : md k .bad = .bad := id rfl
def mpK (aft : α → Env → Env) (ρ ρx : Env) : Res α → MO α
  | .ok d => .ok d (aft d ρ)
  | .exc x => .ex x ρx
  | .bad => .bad
@[simp] theorem mpK_ok {af : α → Env → Env} {d : α} : mpK af ρ ρx (.ok d) = .ok d (af d ρ) := id rfl
@[simp] theorem mP_e {f : VEnv → Res D} : mP L f ρ = mpK (aft L) ρ (shut L ρ) (f (view L ρ)) := by unfold mP mpK; cases f (view L ρ) <;> rfl
@[simp] theorem mAP_e {f : VEnv → Res (List D)} : mAP L f ρ = mpK (aftL L) ρ (shut L ρ) (f (view L ρ)) := by unfold mAP mpK; cases f (view L ρ) <;> rfl
def keepE (_ : α) (ρ : Env) : Env := ρ
@[simp] theorem keepE_e {a : α} : keepE a ρ = ρ := id rfl
@[simp] theorem mB_e {f : VEnv → Res Bool} : mB L f ρ = mpK keepE ρ (shut L ρ) (f (view L ρ)) := by unfold mB mpK; cases f (view L ρ) <;> rfl
def lift (ρ : Env) : Res α → MO α
  | .ok d => .ok d ρ
  | _ => .bad
@[simp] theorem lift_ok {a : α} : lift ρ (.ok a) = .ok a ρ := id rfl
def mOp2 (g : D → D → Res D) (a b : D) (ρ : Env) : MO D := lift ρ (g a b)
@[simp] theorem mOp2_e {g : D → D → Res D} {a b : D} : mOp2 g a b ρ = lift ρ (g a b) := id rfl
def mOp1 (g : D → D → Res D) (mb : Env → MO D) (a : D) (ρ : Env) : MO D := md (mOp2 g a) (mb ρ)
@[simp] theorem mOp1_e {g : D → D → Res D} {mb : Env → MO D} {a : D} : mOp1 g mb a ρ = md (mOp2 g a) (mb ρ) := id rfl
@[simp] theorem mOp_e {g : D → D → Res D} {ma mb : Env → MO D} : mOp g ma mb ρ = md (mOp1 g mb) (ma ρ) := by
  unfold mOp
  cases ma ρ with
  | ok a ρ1 =>
    show (mb ρ1).bind _ = md _ (mb ρ1)
    cases mb ρ1 with
    | ok b ρ2 => show (match g a b with | .ok d => MO.ok d ρ2 | _ => .bad) = lift ρ2 (g a b); cases g a b <;> rfl
    | ex x ρ2 => rfl
    | bad => rfl
  | ex x ρ2 => rfl
  | bad => rfl
@[simp] theorem mNil_e : mNil ρ = .ok [] ρ := id rfl
def mCons2 (a : D) (as : List D) (ρ : Env) : MO (List D) := .ok (a :: as) ρ
@[simp] theorem mCons2_e {a : D} {as : List D} : mCons2 a as ρ = .ok (a :: as) ρ := id rfl
def mCons1 (n : Env → MO (List D)) (a : D) (ρ : Env) : MO (List D) := md (mCons2 a) (n ρ)
@[simp] theorem mCons1_e {n : Env → MO (List D)} {a : D} : mCons1 n a ρ = md (mCons2 a) (n ρ) := id rfl
@[simp] theorem mCons_e {m : Env → MO D} {n : Env → MO (List D)} : mCons m n ρ = md (mCons1 n) (m ρ) := by
  unfold mCons
  cases m ρ with
  | ok a ρ1 => show (n ρ1).bind _ = md _ (n ρ1); cases n ρ1 <;> rfl
  | ex x ρ2 => rfl
  | bad => rfl
def mTup1 (as : List D) (ρ : Env) : MO D := lift ρ (tupC as)
@[simp] theorem mTup1_e {as : List D} : mTup1 as ρ = lift ρ (tupC as) := id rfl
theorem lift_if {b : Bool} {d : D} : lift ρ (if b = true then Res.ok d else .bad) = if b = true then MO.ok d ρ else .bad := by cases b <;> rfl
@[simp] theorem mTup_e {m : Env → MO (List D)} : mTup m ρ = md mTup1 (m ρ) := by
  unfold mTup
  cases m ρ with
  | ok a ρ1 => exact lift_if.symm
  | ex x ρ2 => rfl
  | bad => rfl
def mLst1 (as : List D) (ρ : Env) : MO D := lift ρ (lstC as)
@[simp] theorem mLst1_e {as : List D} : mLst1 as ρ = lift ρ (lstC as) := id rfl
@[simp] theorem mLst_e {m : Env → MO (List D)} : mLst m ρ = md mLst1 (m ρ) := by
  unfold mLst
  cases m ρ with
  | ok a ρ1 => exact lift_if.symm
  | ex x ρ2 => rfl
  | bad => rfl
def mApp1 (g : List D → Res D) (as : List D) (ρ : Env) : MO D := lift ρ (g as)
@[simp] theorem mApp1_e {g : List D → Res D} {as : List D} : mApp1 g as ρ = lift ρ (g as) := id rfl
@[simp] theorem mApp_e {g : List D → Res D} {m : Env → MO (List D)} : mApp g m ρ = md (mApp1 g) (m ρ) := by
  unfold mApp
  cases m ρ with
  | ok a ρ1 => show (match g a with | .ok d => MO.ok d ρ1 | _ => .bad) = lift ρ1 (g a); cases g a <;> rfl
  | ex x ρ2 => rfl
  | bad => rfl
def ioE (i : Nat) (t : Bool) (ρ : Env) : Res (D × D) → MO D
  | .ok r => .ok r.1 (ρ.set i (some (.own t r.2)))
  | _ => .bad
@[simp] theorem ioE_e {i : Nat} {t : Bool} {r : D × D} : ioE i t ρ (.ok r) = .ok r.1 (ρ.set i (some (.own t r.2))) := id rfl
def ioD (j i : Nat) (f : List D → Res (D × D)) (as : List D) (ρ : Env) : Option (Bool × D) → MO D
  | some (t, o) => ioE i t ρ (f (as.insertIdx j o))
  | none => .bad
@[simp] theorem ioD_e {j i : Nat} {f : List D → Res (D × D)} {as : List D} {t : Bool} {o : D} : ioD j i f as ρ (some (t, o)) = ioE i t ρ (f (as.insertIdx j o)) := id rfl
def ioB (j i : Nat) (f : List D → Res (D × D)) (as : List D) (ρ : Env) : MO D := ioD j i f as ρ (ownS ρ i)
@[simp] theorem ioB_e {j i : Nat} {f : List D → Res (D × D)} {as : List D} : ioB j i f as ρ = ioD j i f as ρ (ownS ρ i) := id rfl
def ioA (j i : Nat) (f : List D → Res (D × D)) (m : Env → MO (List D)) (ρ : Env) : Option (Bool × D) → MO D
  | some _ => md (ioB j i f) (m ρ)
  | none => .bad
@[simp] theorem ioA_e {j i : Nat} {f : List D → Res (D × D)} {m : Env → MO (List D)} {x : Bool × D} : ioA j i f m ρ (some x) = md (ioB j i f) (m ρ) := id rfl
@[simp] theorem mIO_e {j i : Nat} {f : List D → Res (D × D)} {m : Env → MO (List D)} : mIO j i f m ρ = ioA j i f m ρ (ownS ρ i) := by
  unfold mIO ioA
  cases ownS ρ i with
  | none => rfl
  | some x =>
    show (m ρ).bind _ = md _ (m ρ)
    cases m ρ with
    | ok as ρ1 =>
      show (match ownS ρ1 i with | some (t, o) => _ | none => _) = ioD j i f as ρ1 (ownS ρ1 i)
      cases ownS ρ1 i with
      | none => rfl
      | some y =>
        show (match f (as.insertIdx j y.2) with | .ok r => MO.ok r.1 (ρ1.set i (some (.own y.1 r.2))) | _ => .bad) = ioE i y.1 ρ1 (f (as.insertIdx j y.2))
        cases f (as.insertIdx j y.2) <;> rfl
    | ex x ρ1 => rfl
    | bad => rfl
def mtC : D → Env → MO Bool
  | .bl b, ρ => .ok b ρ
  | _, _ => .bad
@[simp] theorem mtC_e {b : Bool} : mtC (.bl b) ρ = .ok b ρ := id rfl
@[simp] theorem mTest_e {m : Env → MO D} : mTest m ρ = md mtC (m ρ) := by
  unfold mTest
  cases m ρ with
  | ok a ρ1 => cases a <;> rfl
  | ex x ρ2 => rfl
  | bad => rfl
def mnC (b : Bool) (ρ : Env) : MO Bool := .ok (!b) ρ
@[simp] theorem mnC_e {b : Bool} : mnC b ρ = .ok (!b) ρ := id rfl
@[simp] theorem mNot_e {m : Env → MO Bool} : mNot m ρ = md mnC (m ρ) := id rfl
def mandC (n : Env → MO Bool) (b : Bool) (ρ : Env) : MO Bool := if b = true then n ρ else .ok false ρ
@[simp] theorem mandC_t {n : Env → MO Bool} : mandC n true ρ = n ρ := id rfl
@[simp] theorem mandC_f {n : Env → MO Bool} : mandC n false ρ = .ok false ρ := id rfl
@[simp] theorem mAnd_e {m n : Env → MO Bool} : mAnd m n ρ = md (mandC n) (m ρ) := id rfl
def morC (n : Env → MO Bool) (b : Bool) (ρ : Env) : MO Bool := if b = true then .ok true ρ else n ρ
@[simp] theorem morC_t {n : Env → MO Bool} : morC n true ρ = .ok true ρ := id rfl
@[simp] theorem morC_f {n : Env → MO Bool} : morC n false ρ = n ρ := id rfl
@[simp] theorem mOr_e {m n : Env → MO Bool} : mOr m n ρ = md (morC n) (m ρ) := id rfl
@[simp] theorem mYes_e : mYes ρ = .ok true ρ := id rfl
def ats (k : α → Env → Out) : MO α → Out
  | .ok a ρ => k a ρ
  | .ex x ρ => .ex x ρ
  | .bad => .bad
@[simp] theorem ats_ok {k : α → Env → Out} {a : α} : ats k (.ok a ρ) = k a ρ := id rfl
theorem mAt_e {m : Env → MO α} {k : α → Env → Out} : mAt m ρ k = ats k (m ρ) := by unfold mAt ats; cases m ρ <;> rfl
def asgM1 (tg : Tgt) (d : D) (ρ : Env) : Out := asgD ρ (tg d)
@[simp] theorem asgM1_e {tg : Tgt} {d : D} : asgM1 tg d ρ = asgD ρ (tg d) := id rfl
@[simp] theorem sAsgM_e {m : Env → MO D} {tg : Tgt} : sAsgM m tg ρ = ats (asgM1 tg) (m ρ) := by
  unfold sAsgM
  rw [mAt_e]
  congr 1
def exprM1 (_ : D) (ρ : Env) : Out := .nx ρ
@[simp] theorem exprM1_e {d : D} : exprM1 d ρ = .nx ρ := id rfl
@[simp] theorem sExprM_e {m : Env → MO D} : sExprM m ρ = ats exprM1 (m ρ) := mAt_e
def retM1 (d : D) (ρ : Env) : Out := .rt d ρ
@[simp] theorem retM1_e {d : D} : retM1 d ρ = .rt d ρ := id rfl
@[simp] theorem sRetM_e {m : Env → MO D} : sRetM m ρ = ats retM1 (m ρ) := mAt_e
def ifM1 (g h : Env → Out) (b : Bool) (ρ : Env) : Out := if b = true then g ρ else h ρ
@[simp] theorem ifM1_t : ifM1 g h true ρ = g ρ := id rfl
@[simp] theorem ifM1_f : ifM1 g h false ρ = h ρ := id rfl
@[simp] theorem sIfM_e {m : Env → MO Bool} : sIfM m g h ρ = ats (ifM1 g h) (m ρ) := mAt_e
def appM1 (i : Nat) (d : D) (ρ : Env) : Out := chg ρ i (appF d)
@[simp] theorem appM1_e {i : Nat} {d : D} : appM1 i d ρ = chg ρ i (appF d) := id rfl
@[simp] theorem sAppM_e {i : Nat} {m : Env → MO D} : sAppM i m ρ = ats (appM1 i) (m ρ) := mAt_e
def ownM1 (i : Nat) (d : D) (ρ : Env) : Out := .nx (ρ.set i (some (.own false d)))
@[simp] theorem ownM1_e {i : Nat} {d : D} : ownM1 i d ρ = .nx (ρ.set i (some (.own false d))) := id rfl
@[simp] theorem sOwnM_e {i : Nat} {m : Env → MO D} : sOwnM i m ρ = ats (ownM1 i) (m ρ) := mAt_e
/-! comprehensions with state -/
theorem compM_sub {tg : Tgt} {c : Env → MO Bool} {f : Env → MO D} {vs : List Nat} {I : Env → Prop} {P : D → D → Prop} : ∀ {ds : List D} {ρ : Env}, I ρ →
    (∀ d ∈ ds, ∀ ρ, I ρ → ∃ as, tg d = .ok as ∧ as.all (fun p => vs.contains p.1) = true ∧ ((∃ ρ1, c (setS (wipeS ρ vs) as) = .ok false ρ1 ∧ I (wipeS ρ1 vs)) ∨ ∃ ρ1 e ρ2, c (setS (wipeS ρ vs) as) = .ok true ρ1 ∧ f ρ1 = .ok e ρ2 ∧ I (wipeS ρ2 vs) ∧ P d e)) →
    ∃ es ρ' sub, compM tg c f vs ds ρ = .ok es ρ' ∧ I ρ' ∧ sub.Sublist ds ∧ Paired P sub es
  | [], ρ, h0, _ => ⟨[], ρ, [], rfl, h0, .slnil, .nil⟩
  | d :: ds, ρ, h0, h => by
    obtain ⟨as, h1, h2, h3⟩ := h d List.mem_cons_self ρ h0
    rcases h3 with ⟨ρ1, h3, h4⟩ | ⟨ρ1, e, ρ2, h3, h4, h5, h6⟩
    · obtain ⟨es, ρ', sub, e1, e2, e3, e4⟩ := compM_sub (ds := ds) h4 fun x hx => h x (List.mem_cons_of_mem _ hx)
      refine ⟨es, ρ', sub, ?_, e2, e3.cons _, e4⟩
      unfold compM
      rw [h1]
      show (if as.all (fun p => vs.contains p.1) = true then _ else _) = _
      rw [if_pos h2, h3, MO.bind_ok, if_neg Bool.false_ne_true, e1]
    · obtain ⟨es, ρ', sub, e1, e2, e3, e4⟩ := compM_sub (ds := ds) h5 fun x hx => h x (List.mem_cons_of_mem _ hx)
      refine ⟨e :: es, ρ', d :: sub, ?_, e2, e3.cons₂ _, .cons h6 e4⟩
      unfold compM
      rw [h1]
      show (if as.all (fun p => vs.contains p.1) = true then _ else _) = _
      rw [if_pos h2, h3, MO.bind_ok, if_pos rfl, h4, MO.bind_ok, e1, MO.bind_ok]
/-- .. none left out -/
theorem compM_all {tg : Tgt} {c : Env → MO Bool} {f : Env → MO D} {vs : List Nat} {I : Env → Prop} {P : D → D → Prop} : ∀ {ds : List D} {ρ : Env}, I ρ →
    (∀ d ∈ ds, ∀ ρ, I ρ → ∃ as, tg d = .ok as ∧ as.all (fun p => vs.contains p.1) = true ∧ ∃ ρ1 e ρ2, c (setS (wipeS ρ vs) as) = .ok true ρ1 ∧ f ρ1 = .ok e ρ2 ∧ I (wipeS ρ2 vs) ∧ P d e) →
    ∃ es ρ', compM tg c f vs ds ρ = .ok es ρ' ∧ I ρ' ∧ Paired P ds es
  | [], ρ, h0, _ => ⟨[], ρ, rfl, h0, .nil⟩
  | d :: ds, ρ, h0, h => by
    obtain ⟨as, h1, h2, ρ1, e, ρ2, h3, h4, h5, h6⟩ := h d List.mem_cons_self ρ h0
    obtain ⟨es, ρ', e1, e2, e4⟩ := compM_all (ds := ds) h5 fun x hx => h x (List.mem_cons_of_mem _ hx)
    refine ⟨e :: es, ρ', ?_, e2, .cons h6 e4⟩
    unfold compM
    rw [h1]
    show (if as.all (fun p => vs.contains p.1) = true then _ else _) = _
    rw [if_pos h2, h3, MO.bind_ok, if_pos rfl, h4, MO.bind_ok, e1, MO.bind_ok]
theorem mComp_of {vs L : List Nat} {it : VEnv → Res (List D)} {tg : Tgt} {c : Env → MO Bool} {f : Env → MO D} {ds es : List D} {ρ' : Env} (hi : it (view L ρ) = .ok ds) (hl : ds.length ≤ 16777215) (h : compM tg c f vs ds (wipeS (shut L ρ) vs) = .ok es ρ') : mComp vs L it tg c f ρ = .ok (.lst es) ρ' := by
  unfold mComp
  rw [hi]
  dsimp only
  rw [if_pos (fit_of hl), h]
theorem mCompI_of {vs : List Nat} {m : Env → MO (List D)} {tg : Tgt} {c : Env → MO Bool} {f : Env → MO D} {ds es : List D} {ρ1 ρ' : Env} (hi : m ρ = .ok ds ρ1) (hl : ds.length ≤ 16777215) (h : compM tg c f vs ds (wipeS ρ1 vs) = .ok es ρ') : mCompI vs m tg c f ρ = .ok (.lst es) ρ' := by
  unfold mCompI
  rw [hi, MO.bind_ok, if_pos (fit_of hl), h]
theorem mRange1_of {m : Env → MO D} {ρ1 : Env} {j : Int} (h : m ρ = .ok (.int j) ρ1) (h1 : -(2 ^ 62) ≤ j) (h2 : j < 2 ^ 62) : mRange1 m ρ = .ok (rangeD 0 j.toNat) ρ1 := by
  unfold mRange1
  rw [h, MO.bind_ok]
  exact if_pos (inR_of h1 h2)
end
end Du

namespace Du
open PySem PySem.Spec PyProof.Rows L2
/-! ### dicts, sums, comparisons, reckoned -/
section
variable {α β : Type} {g h : Env → Out} {ρ ρx : Env} {L : List Nat}
def ownDC : Option (Option Slot) → Option (Bool × List (D × D))
  | some (some (.own t (.dct false ds))) => some (t, ds)
  | _ => none
@[simp] theorem ownD_e {i : Nat} : ownD ρ i = ownDC (ρ[i]?) := id rfl
@[simp] theorem ownDC_e {t : Bool} {ds : List (D × D)} : ownDC (some (some (.own t (.dct false ds)))) = some (t, ds) := id rfl
def needDC (g : Env → Out) (ρ : Env) : Option (Bool × List (D × D)) → Out
  | some _ => g ρ
  | none => .bad
@[simp] theorem needD_e {i : Nat} : needD i g ρ = needDC g ρ (ownD ρ i) := id rfl
@[simp] theorem needDC_e {x : Bool × List (D × D)} : needDC g ρ (some x) = g ρ := id rfl
def chgDT (ρ : Env) (i : Nat) (t : Bool) : Option (List (D × D)) → Out
  | some es => .nx (ρ.set i (some (.own t (.dct false es))))
  | none => .bad
@[simp] theorem chgDT_e {i : Nat} {t : Bool} {es : List (D × D)} : chgDT ρ i t (some es) = .nx (ρ.set i (some (.own t (.dct false es)))) := id rfl
def chgDC (ρ : Env) (i : Nat) (f : List (D × D) → Option (List (D × D))) : Option (Bool × List (D × D)) → Out
  | some (t, ds) => chgDT ρ i t (f ds)
  | none => .bad
@[simp] theorem chgDC_e {i : Nat} {f : List (D × D) → Option (List (D × D))} {t : Bool} {ds : List (D × D)} : chgDC ρ i f (some (t, ds)) = chgDT ρ i t (f ds) := id rfl
@[simp] theorem chgD_e {i : Nat} {f : List (D × D) → Option (List (D × D))} : chgD ρ i f = chgDC ρ i f (ownD ρ i) := id rfl
noncomputable def putDF (n d : D) (ds : List (D × D)) : Option (List (D × D)) := if (dKeyOk n && fit ds.length) = true then some (dPut ds n d) else none
@[simp] theorem putDF_str {z : Str} {d : D} {ds : List (D × D)} (h : ds.length ≤ 16777215) : putDF (.str z) d ds = some (dPut ds (.str z) d) := if_pos (by rw [fit_of h]; rfl)
@[simp] theorem putDF_int {z : Int} {d : D} {ds : List (D × D)} (h : ds.length ≤ 16777215) : putDF (.int z) d ds = some (dPut ds (.int z) d) := if_pos (by rw [fit_of h]; rfl)
noncomputable def putDE (i : Nat) (ρ : Env) (d n : D) : Out := chgD ρ i (putDF n d)
@[simp] theorem putDE_e {i : Nat} {d n : D} : putDE i ρ d n = chgD ρ i (putDF n d) := id rfl
noncomputable def putDD (i : Nat) (fk : VEnv → Res D) (d : D) (ρ : Env) : Out := atR (putDE i ρ d) (shut [] ρ) (fk (view [] ρ))
@[simp] theorem putDD_e {i : Nat} {fk : VEnv → Res D} {d : D} : putDD i fk d ρ = atR (putDE i ρ d) (shut [] ρ) (fk (view [] ρ)) := id rfl
theorem putDD_f {i : Nat} {fk : VEnv → Res D} {d : D} : (fun ρ' => eAt [] fk ρ' fun n => chgD ρ' i fun ds => if (dKeyOk n && fit ds.length) = true then some (dPut ds n d) else none) = putDD i fk d := by
  funext ρ'
  rw [eAt_e]
  rfl
noncomputable def putDK (i : Nat) (L : List Nat) (ρ : Env) (fk : VEnv → Res D) (d : D) : Out := needD i (putDD i fk d) (aft L d ρ)
@[simp] theorem putDK_e {i : Nat} {fk : VEnv → Res D} {d : D} : putDK i L ρ fk d = needD i (putDD i fk d) (aft L d ρ) := id rfl
@[simp] theorem sPutD_e {i : Nat} {fv fk : VEnv → Res D} : sPutD i L fv fk ρ = atR (putDK i L ρ fk) (shut L ρ) (fv (view L ρ)) := by
  unfold sPutD
  rw [eAt_e]
  congr 1
noncomputable def putDM2 (i : Nat) (d n : D) (ρ : Env) : Out := chgD ρ i (putDF n d)
@[simp] theorem putDM2_e {i : Nat} {d n : D} : putDM2 i d n ρ = chgD ρ i (putDF n d) := id rfl
noncomputable def putDM1 (i : Nat) (n : Env → MO D) (d : D) (ρ : Env) : Out := ats (putDM2 i d) (n ρ)
@[simp] theorem putDM1_e {i : Nat} {n : Env → MO D} {d : D} : putDM1 i n d ρ = ats (putDM2 i d) (n ρ) := id rfl
noncomputable def putDM0 (i : Nat) (n : Env → MO D) (d : D) (ρ : Env) : Out := needD i (putDM1 i n d) ρ
@[simp] theorem putDM0_e {i : Nat} {n : Env → MO D} {d : D} : putDM0 i n d ρ = needD i (putDM1 i n d) ρ := id rfl
theorem putDM1_f {i : Nat} {n : Env → MO D} {d : D} : (fun ρ' => mAt n ρ' fun n ρ2 => chgD ρ2 i fun ds => if (dKeyOk n && fit ds.length) = true then some (dPut ds n d) else none) = putDM1 i n d := by
  funext ρ'
  rw [mAt_e]
  rfl
@[simp] theorem sPutDM_e {i : Nat} {m n : Env → MO D} : sPutDM i m n ρ = ats (putDM0 i n) (m ρ) := by
  unfold sPutDM
  rw [mAt_e]
  congr 1
def itC : Option (Bool × List (D × D)) → Env → MO D
  | some (_, ds), ρ => if fit ds.length = true then .ok (.lst (qItems ds)) ρ else .bad
  | none, _ => .bad
theorem mItems_of {i : Nat} {t : Bool} {ds : List (D × D)} (e : ρ[i]? = some (some (.own t (.dct false ds)))) (h : ds.length ≤ 16777215) : mItems i ρ = .ok (.lst (qItems ds)) ρ := by
  unfold mItems
  rw [ownD_e, e, ownDC_e]
  exact if_pos (fit_of h)
/-! lists that grow, are emptied -/
def lsC : D → Res (List D) := dLst
@[simp] theorem lsC_e {ds : List D} : lsC (.lst ds) = .ok ds := id rfl
@[simp] theorem eLs_e {f : VEnv → Res D} {ρ : VEnv} : eLs f ρ = bd lsC (f ρ) := id rfl
def extF (es ds : List D) : Option (List D) := if fit (ds.length + es.length) = true then some (ds ++ es) else none
@[simp] theorem extF_e {es ds : List D} (h : ds.length + es.length ≤ 16777215) : extF es ds = some (ds ++ es) := if_pos (fit_of h)
def extC (i : Nat) (L : List Nat) (ρ : Env) (es : List D) : Out := chg (aftL L es ρ) i (extF es)
@[simp] theorem extC_e {i : Nat} {es : List D} : extC i L ρ es = chg (aftL L es ρ) i (extF es) := id rfl
@[simp] theorem sExt_e {i : Nat} {f : VEnv → Res D} : sExt i L f ρ = atR (extC i L ρ) (shut L ρ) (eLs f (view L ρ)) := eAt_e
def clrF (_ : List D) : Option (List D) := some []
@[simp] theorem clrF_e {ds : List D} : clrF ds = some [] := id rfl
@[simp] theorem sClr_e {i : Nat} : sClr i ρ = chg ρ i clrF := id rfl
/-! dicts -/
@[simp] theorem eDct0_e {ρ : VEnv} : eDct0 ρ = .ok (.dct false []) := id rfl
def dct1C : D → D → Res D := fun k v => if dKeyOk k = true then .ok (.dct false [(k, v)]) else .bad
@[simp] theorem dct1C_str {z : Str} {v : D} : dct1C (.str z) v = .ok (.dct false [(.str z, v)]) := id rfl
@[simp] theorem eDct1_e {fk fv : VEnv → Res D} {ρ : VEnv} : eDct1 fk fv ρ = op2 dct1C (fk ρ) (fv ρ) := by
  unfold eDct1
  cases fk ρ with
  | ok k => show (fv ρ).bind _ = op2 dct1C (.ok k) (fv ρ); cases fv ρ <;> rfl
  | exc x => rfl
  | bad => rfl
def iotB (f : List D → Res (D × D)) (as : List D) (o : D) : Res D := match f (o :: as) with
  | .ok r => .ok r.1
  | _ => .bad
theorem iotB_of {f : List D → Res (D × D)} {as : List D} {o : D} {r : D × D} (h : f (o :: as) = .ok r) : iotB f as o = .ok r.1 := by unfold iotB; rw [h]
def iotC (f : List D → Res (D × D)) (fa : VEnv → Res (List D)) (ρ : VEnv) (o : D) : Res D := bd (fun as => iotB f as o) (fa ρ)
theorem eIOT_of {f : List D → Res (D × D)} {f0 : VEnv → Res D} {fa : VEnv → Res (List D)} {ρ : VEnv} {o : D} {as : List D} {r : D × D} (h0 : f0 ρ = .ok o) (h1 : fa ρ = .ok as) (h2 : f (o :: as) = .ok r) : eIOT f f0 fa ρ = .ok r.1 := by
  unfold eIOT
  rw [h0, Res.bind_ok, h1, Res.bind_ok, h2]
noncomputable def g1C (a n : D) : Res D := match a with
  | .dct false kvs => if dKeyOk n = true then .ok ((dGet kvs n).getD .non) else .bad
  | _ => .bad
theorem eGet1_of {fo fk : VEnv → Res D} {ρ : VEnv} {kvs : List (D × D)} {n : D} (h0 : fo ρ = .ok (.dct false kvs)) (h1 : fk ρ = .ok n) (h2 : dKeyOk n = true) : eGet1 fo fk ρ = .ok ((dGet kvs n).getD .non) := by
  unfold eGet1
  rw [h0, Res.bind_ok]
  dsimp only
  rw [h1, Res.bind_ok, if_pos h2]
theorem eGet2_of {fo fk fd : VEnv → Res D} {ρ : VEnv} {kvs : List (D × D)} {n e : D} (h0 : fo ρ = .ok (.dct false kvs)) (h1 : fk ρ = .ok n) (h3 : fd ρ = .ok e) (h2 : dKeyOk n = true) : eGet2 fo fk fd ρ = .ok ((dGet kvs n).getD e) := by
  unfold eGet2
  rw [h0, Res.bind_ok]
  dsimp only
  rw [h1, Res.bind_ok, h3, Res.bind_ok, if_pos h2]
theorem dGet_cons {p : D × D} {kvs : List (D × D)} {k : D} : dGet (p :: kvs) k = if p.1 = k then some p.2 else dGet kvs k := by
  unfold dGet
  rw [List.find?_cons]
  by_cases h : p.1 = k
  · rw [decide_eq_true h, if_pos h]; rfl
  · rw [decide_eq_false h, if_neg h]
theorem dGet_none {k : D} : ∀ {kvs : List (D × D)}, (∀ p ∈ kvs, p.1 ≠ k) → dGet kvs k = none
  | [], _ => rfl
  | p :: r, h => by
    rw [dGet_cons, if_neg (h p List.mem_cons_self)]
    exact dGet_none fun q hq => h q (List.mem_cons_of_mem _ hq)
theorem dGet_some {k v : D} : ∀ {kvs : List (D × D)}, (kvs.map (·.1)).Nodup → (k, v) ∈ kvs → dGet kvs k = some v
  | [], _, h => by cases h
  | p :: r, nd, h => by
    rw [List.map_cons, List.nodup_cons] at nd
    rw [dGet_cons]
    rcases List.mem_cons.mp h with e | h
    · subst e; rw [if_pos rfl]
    · rw [if_neg, dGet_some nd.2 h]
      intro e
      exact nd.1 (List.mem_map.mpr ⟨_, h, e.symm⟩)
theorem dGet_mem {k v : D} {kvs : List (D × D)} (h : dGet kvs k = some v) : (k, v) ∈ kvs := by
  unfold dGet at h
  obtain ⟨p, h1, h2⟩ := Option.map_eq_some_iff.mp h
  have := List.mem_of_find?_eq_some h1
  have e := List.find?_some h1
  have e : p.1 = k := by simpa using e
  subst e h2
  exact this
theorem dPut_new {kvs : List (D × D)} {k v : D} (h : ∀ p ∈ kvs, p.1 ≠ k) : dPut kvs k v = kvs ++ [(k, v)] := by
  unfold dPut
  rw [dGet_none h]
  rfl
theorem merge_new : ∀ {ps acc : List (D × D)}, ((acc ++ ps).map (·.1)).Nodup → mergeD acc ps = acc ++ ps
  | [], acc, _ => by simp [mergeD]
  | p :: ps, acc, h => by
    have h1 : ∀ q ∈ acc, q.1 ≠ p.1 := by
      intro q hq e
      rw [List.map_append, List.map_cons] at h
      have := (List.nodup_append.mp h).2.2 q.1 (List.mem_map.mpr ⟨q, hq, rfl⟩) p.1 List.mem_cons_self
      exact this e
    have : mergeD acc (p :: ps) = mergeD (dPut acc p.1 p.2) ps := rfl
    rw [this, dPut_new h1, merge_new (by simpa using h)]
    simp
theorem asPairs_map {ps : List (D × D)} (h : ∀ p ∈ ps, dKeyOk p.1 = true) : asPairs (ps.map fun p => .tup [p.1, p.2]) = some ps := by
  induction ps with
  | nil => rfl
  | cons p r ih =>
    rw [List.map_cons]
    unfold asPairs
    rw [if_pos (h p List.mem_cons_self), ih fun q hq => h q (List.mem_cons_of_mem _ hq)]
    rfl
theorem dDict_new {ps : List (D × D)} (h : ∀ p ∈ ps, dKeyOk p.1 = true) (nd : (ps.map (·.1)).Nodup) : dDict [.lst (ps.map fun p => .tup [p.1, p.2])] = .ok (.dct false ps) := by
  show (match asPairs _ with | some ps => Res.ok (D.dct false (mergeD [] ps)) | none => .bad) = _
  rw [asPairs_map h]
  dsimp only
  rw [merge_new (by simpa using nd)]
  rfl
theorem dIx_dct {kvs : List (D × D)} {k : D} (h : dKeyOk k = true) : dIx (.dct false kvs) k = ixC (dGet kvs k) := by
  have : dIx (.dct false kvs) k = (if dKeyOk k = true then match dGet kvs k with | some d => Res.ok d | none => .bad else .bad) := by cases k <;> rfl
  rw [this, if_pos h]
  cases dGet kvs k <;> rfl
theorem dIx_last {w : List Nat} {c : Nat} (h : w.length < 16777215) : dIx (.str (Dear.txt (w ++ [c]))) (.int (-1)) = .ok (.str (Dear.txt [c])) := by
  show (if fit (Dear.txt (w ++ [c])).length = true then match atI (Dear.txt (w ++ [c])).cps.toList (-1) with | some c => Res.ok (D.str ⟨#[c]⟩) | none => .bad else .bad) = _
  rw [if_pos (fit_of (by rw [Dear.txt_length, List.length_append, List.length_singleton]; omega))]
  have e : (Dear.txt (w ++ [c])).cps.toList = w ++ [c] := Dear.txt_list _
  rw [e]
  have : atI (w ++ [c]) (-1) = some c := by
    unfold atI ixN
    rw [if_neg (by decide), if_pos (by rw [List.length_append, List.length_singleton]; omega)]
    show (w ++ [c])[_]? = _
    rw [List.length_append, List.length_singleton, show (-1 + ((w.length + 1 : Nat) : Int)).toNat = w.length by omega, List.getElem?_append_right (Nat.le_refl _), Nat.sub_self]
    rfl
  rw [this]
  rfl
theorem dIn_dct {neg : Bool} {kvs : List (D × D)} {k : D} (h : dKeyOk k = true) : dIn neg k (.dct false kvs) = .ok (.bl (neg ^^ (dGet kvs k).isSome)) := by
  have : dIn neg k (.dct false kvs) = if dKeyOk k = true then .ok (.bl (neg ^^ (dGet kvs k).isSome)) else .bad := by cases k <;> rfl
  rw [this, if_pos h]
@[simp] theorem dSum_ints {ns : List Int} : dSum [.lst (ns.map D.int)] = .ok (.int ns.sum) := by
  show (match asInts (ns.map D.int) with | some ns => Res.ok (D.int ns.sum) | none => .bad) = _
  rw [asInts_map]
@[simp] theorem dMax2_e {i j : Int} : dMax2 [.int i, .int j] = .ok (.int (if j > i then j else i)) := id rfl
@[simp] theorem dMin2_e {i j : Int} : dMin2 [.int i, .int j] = .ok (.int (if j < i then j else i)) := id rfl
@[simp] theorem dList_lst {ds : List D} : dList [.lst ds] = .ok (.lst ds) := id rfl
/-! comparisons -/
mutual
theorem pyEq_self : ∀ {d : D}, okD d = true → pyEq d d = true
  | .non, _ => rfl
  | .bl b, _ => by cases b <;> rfl
  | .int i, _ => by unfold pyEq; simp
  | .str z, _ => by unfold pyEq; simp
  | .lst ds, o => by unfold pyEq; exact pyEqAll_self o
  | .tup ds, o => by unfold pyEq; exact pyEqAll_self o
  | .scr _, o => by cases o
  | .dct _ _, o => by cases o
  | .exc _ _, o => by cases o
theorem pyEqAll_self : ∀ {ds : List D}, okAll ds = true → pyEqAll ds ds = true
  | [], _ => rfl
  | d :: ds, o => by
    simp only [okAll, Bool.and_eq_true] at o
    unfold pyEqAll
    rw [pyEq_self o.1, pyEqAll_self o.2]
    rfl
end
theorem dEq_of {a b : D} (ha : lay a = true) (hb : lay b = true) : dEq a b = .ok (.bl (pyEq a b)) := if_pos (by rw [ha, hb]; simp)
theorem dNe_of {a b : D} (ha : lay a = true) (hb : lay b = true) : dNe a b = .ok (.bl (!pyEq a b)) := if_pos (by rw [ha, hb]; simp)
theorem dEq_self {a : D} (ha : lay a = true) : dEq a a = .ok (.bl true) := by rw [dEq_of ha ha, pyEq_self (lay_ok ha)]
theorem dNe_self {a : D} (ha : lay a = true) : dNe a a = .ok (.bl false) := by rw [dNe_of ha ha, pyEq_self (lay_ok ha)]; rfl
/-! what may be compared: texts of letters -/
def Asc (w : List Nat) : Prop := ∀ c ∈ w, c < 128
theorem okD_txt {w : List Nat} (h : Asc w) : okD (.str (Dear.txt w)) = true := by
  show ((Dear.txt w).cps.toList.all fun c => decide (c < 128)) = true
  have e : (Dear.txt w).cps.toList = w := Dear.txt_list _
  rw [e]
  exact List.all_eq_true.mpr fun c hc => decide_eq_true (h c hc)
theorem okAll_of : ∀ {ds : List D}, (∀ d ∈ ds, okD d = true) → okAll ds = true
  | [], _ => rfl
  | d :: ds, h => by
    simp only [okAll, Bool.and_eq_true]
    exact ⟨h d List.mem_cons_self, okAll_of fun e he => h e (List.mem_cons_of_mem _ he)⟩
theorem depAll_of {n : Nat} : ∀ {ds : List D}, (∀ d ∈ ds, dep d ≤ n) → depAll ds ≤ n
  | [], _ => Nat.zero_le _
  | d :: ds, h => by
    show max (dep d) (depAll ds) ≤ n
    exact Nat.max_le.mpr ⟨h d List.mem_cons_self, depAll_of fun e he => h e (List.mem_cons_of_mem _ he)⟩
/-- may be compared, n deep at most -/
def Ly (n : Nat) (d : D) : Prop := okD d = true ∧ dep d ≤ n
theorem Ly.lay {n : Nat} {d : D} (h : Ly n d) (hn : n ≤ 60) : lay d = true := by
  unfold Du.lay
  rw [h.1, decide_eq_true (Nat.le_trans h.2 hn)]
  rfl
theorem Ly.mono {n m : Nat} {d : D} (h : Ly n d) (hn : n ≤ m) : Ly m d := ⟨h.1, Nat.le_trans h.2 hn⟩
theorem Ly.lst {n : Nat} {ds : List D} (h : ∀ d ∈ ds, Ly n d) : Ly (n + 1) (.lst ds) := ⟨okAll_of fun d hd => (h d hd).1, by
  show depAll ds + 1 ≤ n + 1
  have := depAll_of fun d hd => (h d hd).2
  omega⟩
theorem Ly.tup {n : Nat} {ds : List D} (h : ∀ d ∈ ds, Ly n d) : Ly (n + 1) (.tup ds) := ⟨okAll_of fun d hd => (h d hd).1, by
  show depAll ds + 1 ≤ n + 1
  have := depAll_of fun d hd => (h d hd).2
  omega⟩
theorem Ly.non {n : Nat} : Ly n .non := ⟨rfl, Nat.zero_le _⟩
theorem Ly.bl {n : Nat} {b : Bool} : Ly n (.bl b) := ⟨rfl, Nat.zero_le _⟩
theorem Ly.int {n : Nat} {b : Int} : Ly n (.int b) := ⟨rfl, Nat.zero_le _⟩
theorem Ly.txt {n : Nat} {w : List Nat} (h : Asc w) : Ly n (.str (Dear.txt w)) := ⟨okD_txt h, Nat.zero_le _⟩
theorem Ly.txts {n : Nat} {l : List (List Nat)} (h : ∀ w ∈ l, Asc w) : Ly (n + 1) (.lst (l.map fun v => .str (Dear.txt v))) := .lst fun d hd => by
  obtain ⟨w, hw, rfl⟩ := List.mem_map.mp hd
  exact .txt (h w hw)
theorem forall_cons {α : Type} {P : α → Prop} {a : α} {l : List α} (h : P a) (t : ∀ x ∈ l, P x) : ∀ x ∈ a :: l, P x := fun x hx => by
  rcases List.mem_cons.mp hx with e | e
  · rw [e]; exact h
  · exact t x e
theorem forall_nil {α : Type} {P : α → Prop} : ∀ x ∈ ([] : List α), P x := fun _ h => nomatch h
end
end Du
namespace Du
open PySem PySem.Spec PyProof.Rows L2
/-! ### one step at a time -/
section
variable {g h : Env → Out} {ρ ρ' : Env} {L : List Nat} {o : Out}
theorem seq_to (h1 : g ρ = .nx ρ') (h2 : h ρ' = o) : sSeq g h ρ = o := by rw [sSeq_e, h1]; exact h2
theorem need_to {i : Nat} {x : Bool × List D} (h1 : ownL ρ i = some x) (h2 : g ρ = o) : need i g ρ = o := by rw [need_e, h1]; exact h2
theorem for_to {it : VEnv → Res (List D)} {tg : Tgt} {l : List Nat} {ds : List D} (h1 : it (view L ρ) = .ok ds) (h2 : shut L ρ = ρ') (h3 : forL tg g l ds ρ' = o) : sFor L it tg g l ρ = o := by rw [sFor_e, h1, atR_ok, sForC_e, h2, h3]
theorem ownM_to {m : Env → MO D} {i : Nat} {d : D} (h1 : m ρ = .ok d ρ') : sOwnM i m ρ = .nx (ρ'.set i (some (.own false d))) := by rw [sOwnM_e, h1]; rfl
theorem asgM_to {m : Env → MO D} {i : Nat} {d : D} (h1 : m ρ = .ok d ρ') : sAsgM m (tgN i) ρ = .nx (ρ'.set i (some (.frz d))) := by rw [sAsgM_e, h1]; rfl
theorem asg_to {f : VEnv → Res D} {i : Nat} {d : D} (h1 : f (view L ρ) = .ok d) : sAsg L f (tgN i) ρ = .nx ((aft L d ρ).set i (some (.frz d))) := by rw [sAsg_e, h1]; rfl
theorem own_to {f : VEnv → Res D} {i : Nat} {d : D} (h1 : f (view L ρ) = .ok d) : sOwn i L f ρ = .nx ((aftO L d ρ).set i (some (.own false d))) := by rw [sOwn_e, h1]; rfl
end
end Du
namespace Du
open PySem PySem.Spec PyProof.Rows L2
/-! ### comprehensions over what is made of a list -/
theorem compL_map {α : Type} {F : α → D} {tg : Tgt} {c : VEnv → Res Bool} {f : VEnv → Res D} {ρ : VEnv} {vs : List Nat} {p : α → Bool} {q : α → D} : ∀ {l : List α}, (∀ a ∈ l, ∃ as, tg (F a) = .ok as ∧ as.all (fun p => vs.contains p.1) = true ∧ c (setAllD ρ as) = .ok (p a) ∧ (p a = true → f (setAllD ρ as) = .ok (q a))) → compL tg c f ρ vs (l.map F) = .ok ((l.filter p).map q)
  | [], _ => rfl
  | d :: ds, h => by
    obtain ⟨as, h1, h2, h3, h4⟩ := h d List.mem_cons_self
    have ih := compL_map (l := ds) fun x hx => h x (List.mem_cons_of_mem _ hx)
    rw [List.map_cons]
    unfold compL
    rw [h1, Res.bind_ok, if_pos h2, h3, Res.bind_ok]
    cases hp : p d with
    | true => rw [if_pos rfl, h4 hp, Res.bind_ok, ih, Res.bind_ok, List.filter_cons, hp, if_pos rfl, List.map_cons]
    | false => rw [if_neg Bool.false_ne_true, ih, List.filter_cons, hp, if_neg Bool.false_ne_true]
theorem eComp_map {α : Type} {F : α → D} {tg : Tgt} {c : VEnv → Res Bool} {f : VEnv → Res D} {ρ : VEnv} {vs : List Nat} {it : VEnv → Res (List D)} {l : List α} (p : α → Bool) (q : α → D) (hi : it ρ = .ok (l.map F)) (hl : l.length ≤ 16777215)
    (h : ∀ a ∈ l, ∃ as, tg (F a) = .ok as ∧ as.all (fun p => vs.contains p.1) = true ∧ c (setAllD (wipeD ρ vs) as) = .ok (p a) ∧ (p a = true → f (setAllD (wipeD ρ vs) as) = .ok (q a))) : eComp vs it tg c f ρ = .ok (.lst ((l.filter p).map q)) := by
  unfold eComp
  rw [hi, Res.bind_ok, if_pos (fit_of (by rw [List.length_map]; exact hl)), compL_map h]
  rfl
/-- .. none left out -/
theorem eComp_all {α : Type} {F : α → D} {tg : Tgt} {f : VEnv → Res D} {ρ : VEnv} {vs : List Nat} {it : VEnv → Res (List D)} {l : List α} (q : α → D) (hi : it ρ = .ok (l.map F)) (hl : l.length ≤ 16777215)
    (h : ∀ a ∈ l, ∃ as, tg (F a) = .ok as ∧ as.all (fun p => vs.contains p.1) = true ∧ f (setAllD (wipeD ρ vs) as) = .ok (q a)) : eComp vs it tg bYes f ρ = .ok (.lst (l.map q)) := by
  rw [eComp_map (fun _ => true) q hi hl fun a ha => by
    obtain ⟨as, h1, h2, h3⟩ := h a ha
    exact ⟨as, h1, h2, bYes_e, fun _ => h3⟩, List.filter_eq_self.mpr fun _ _ => rfl]
theorem sum_cast {α : Type} {f : α → Nat} : ∀ {l : List α}, (l.map fun a => ((f a : Nat) : Int)).sum = ((l.map f).sum : Nat)
  | [] => rfl
  | a :: l => by rw [List.map_cons, List.sum_cons, List.map_cons, List.sum_cons, sum_cast, Int.natCast_add]
theorem dSum_nats {α : Type} {f : α → Nat} {l : List α} : dSum [.lst (l.map fun a => .int (f a))] = .ok (.int ((l.map f).sum : Nat)) := by
  have : (l.map fun a => D.int (f a)) = (l.map fun a => ((f a : Nat) : Int)).map D.int := by rw [List.map_map]; rfl
  rw [this, dSum_ints, sum_cast]
end Du
namespace Du
open PySem PySem.Spec PyProof.Rows L2
theorem pyEq_nil {ds : List D} : pyEq (.lst ds) (.lst []) = ds.isEmpty := by cases ds <;> rfl
theorem lay_nil : lay (.lst []) = true := rfl
theorem dNe_nil {ds : List D} (h : ∀ d ∈ ds, Ly 50 d) : dNe (.lst ds) (.lst []) = .ok (.bl (!ds.isEmpty)) := by
  rw [dNe_of ((Ly.lst h).lay (by decide)) lay_nil, pyEq_nil]
theorem dEq_nil {ds : List D} (h : ∀ d ∈ ds, Ly 50 d) : dEq (.lst ds) (.lst []) = .ok (.bl ds.isEmpty) := by
  rw [dEq_of ((Ly.lst h).lay (by decide)) lay_nil, pyEq_nil]
end Du
namespace Du
open PySem PySem.Spec PyProof.Rows L2
theorem dAll_map {α : Type} {l : List α} {f : α → Bool} : dAll [.lst (l.map fun a => .bl (f a))] = .ok (.bl (l.all f)) := by
  have e : (l.map fun a => D.bl (f a)) = (l.map f).map D.bl := by rw [List.map_map]; rfl
  rw [e]
  show (match asBls _ with | some bs => Res.ok (D.bl (bs.all id)) | none => .bad) = _
  rw [asBls_map]
  show Res.ok (D.bl ((l.map f).all id)) = _
  rw [List.all_map]
  rfl
theorem dSl_take {w : List Nat} {j : Nat} (h : w.length ≤ 16777215) : dSl (.str (Dear.txt w)) none (some (j : Int)) = .ok (.str (Dear.txt (w.take j))) := by
  show (if fit (Dear.txt w).length = true then Res.ok (D.str (cutS (Dear.txt w) none (some (j : Int)))) else .bad) = _
  rw [if_pos (fit_of (by rw [Dear.txt_length]; exact h)), Dear.cut_pre]
theorem dRange_from1 {n : Nat} (h : n ≤ 1000) : dRange [.int 1, .int (n : Nat)] = .ok ((List.range (n - 1)).map fun i => .int ((i + 1 : Nat) : Int)) := by
  rw [dRange2 (by omega) (by omega) (by omega) (by omega), show ((n : Int) - 1).toNat = n - 1 by omega]
  unfold rangeD
  congr 1
  exact List.map_congr_left fun i _ => by rw [Int.natCast_add, Int.add_comm]; rfl
end Du
namespace Du
open PySem PySem.Spec PyProof.Rows L2
@[simp] theorem imms_strs {α : Type} {f : α → Str} : ∀ {l : List α}, imms (l.map fun a => D.str (f a)) = true
  | [] => rfl
  | a :: l => by
    rw [List.map_cons, imms_cons, imms_strs]
    rfl
@[simp] theorem imms_ints {α : Type} {f : α → Int} : ∀ {l : List α}, imms (l.map fun a => D.int (f a)) = true
  | [] => rfl
  | a :: l => by
    rw [List.map_cons, imms_cons, imms_ints]
    rfl
theorem dIx_at {α : Type} {F : α → D} {l : List α} {j : Nat} {a : α} (h : l[j]? = some a) : dIx (.lst (l.map F)) (.int (j : Nat)) = .ok (F a) := by
  rw [dIx_lst, atI_nat (by omega), Int.toNat_natCast, List.getElem?_map, h]
  rfl
end Du
namespace Du
open PySem PySem.Spec PyProof.Rows L2
/-! ### exceptions, reckoned -/
@[simp] theorem cons2_exc {x : Ex} {r : Res (List D)} : cons2 (.exc x) r = .exc x := id rfl
@[simp] theorem cons2_exc2 {a : D} {x : Ex} : cons2 (.ok a) (.exc x) = .exc x := id rfl
@[simp] theorem op2_exc {g : D → D → Res D} {x : Ex} {r : Res D} : op2 g (.exc x) r = .exc x := by cases r <;> rfl
@[simp] theorem op2_exc2 {g : D → D → Res D} {a : D} {x : Ex} : op2 g (.ok a) (.exc x) = .exc x := id rfl
theorem nx_ok {f : List D → Res D} {ds : List D} {d : D} (h : f ds = .ok d) : nx f ds = .ok d := by unfold nx; rw [h]
theorem sRaiseI_c {c f : Str} {L : List Nat} {d : D} {ρ : Env} (h : fmtOk d = true) : sRaiseI c f L (eC d) ρ = .ex ⟨c, [(f, d)]⟩ (aft L d ρ) := by
  unfold sRaiseI
  rw [eAt_e, eC_e, atR_ok, if_pos h]
theorem forL_app {tg : Tgt} {g : Env → Out} {l : List Nat} {ρ ρ' : Env} : ∀ {a b : List D}, forL tg g l a ρ = .nx ρ' → (∀ d ∈ a, ∀ ρ as, tg d = .ok as → ∀ ρ2, g (setS ρ as) ≠ .bk ρ2) → forL tg g l (a ++ b) ρ = forL tg g l b ρ'
  | [], b, h, _ => by cases h; rfl
  | d :: a, b, h, hb => by
    rw [List.cons_append, forL_cons]
    rw [forL_cons] at h
    cases e : tg d with
    | ok as =>
      rw [e] at h
      rw [forT_ok] at h ⊢
      have nb := hb d List.mem_cons_self ρ as e
      cases e2 : g (setS ρ as) with
      | nx ρ1 => rw [e2] at h; exact forL_app h fun x hx => hb x (List.mem_cons_of_mem _ hx)
      | ct ρ1 => rw [e2] at h; exact forL_app h fun x hx => hb x (List.mem_cons_of_mem _ hx)
      | bk ρ1 => exact absurd e2 (nb ρ1)
      | rt d1 ρ1 => rw [e2] at h; cases h
      | ro d1 ρ1 => rw [e2] at h; cases h
      | ex x ρ1 => rw [e2] at h; cases h
      | bad => rw [e2] at h; cases h
    | exc x => rw [e] at h; cases h
    | bad => rw [e] at h; cases h
theorem atI_some {α : Type} {l : List α} {k : Int} (h0 : 0 ≤ k) (h1 : k < l.length) : ∃ x, atI l k = some x ∧ x ∈ l := by
  rw [atI_nat h0]
  obtain ⟨n, rfl⟩ : ∃ n : Nat, k = n := ⟨k.toNat, by omega⟩
  exact ⟨l[n], by rw [Int.toNat_natCast, List.getElem?_eq_getElem (by omega)], List.getElem_mem _⟩
end Du

namespace Du
open PySem PySem.Spec PyProof.Rows L2
/-! ### tuple keys, own lists gone through: reckoned -/
section
variable {ρ ρ1 ρ2 : Env} {L : List Nat}
theorem putT_to {i : Nat} {fv fk : VEnv → Res D} {d n : D} {t : Bool} {ds : List (D × D)} (h1 : fv (view L ρ) = .ok d) (h2 : aft L d ρ = ρ1) (h3 : ρ1[i]? = some (some (.own t (.dct true ds)))) (h4 : fk (view [] ρ1) = .ok n) (h5 : tKeyOk n = true) (h6 : ds.length ≤ 16777215) :
    sPutT i L fv fk ρ = .nx (ρ1.set i (some (.own t (.dct true (dPut ds n d))))) := by
  unfold sPutT eAt
  rw [h1]
  dsimp only
  rw [h2]
  unfold needT ownT
  rw [h3]
  dsimp only
  rw [h4]
  dsimp only
  unfold chgT' ownT
  rw [h3]
  dsimp only
  rw [if_pos (by rw [h5, fit_of h6]; rfl)]
theorem eGet2T_of {fo fk fd : VEnv → Res D} {ρ : VEnv} {kvs : List (D × D)} {n e : D} (h0 : fo ρ = .ok (.dct true kvs)) (h1 : fk ρ = .ok n) (h3 : fd ρ = .ok e) (h2 : tKeyOk n = true) : eGet2T fo fk fd ρ = .ok ((dGet kvs n).getD e) := by
  unfold eGet2T
  rw [h0, Res.bind_ok]
  dsimp only
  rw [h1, Res.bind_ok, h3, Res.bind_ok, if_pos h2]
@[simp] theorem dLenT_e {kvs : List (D × D)} : dLenT [.dct true kvs] = .ok (.int kvs.length) := id rfl
theorem dPut_old {kvs : List (D × D)} {k v : D} (h : (dGet kvs k).isSome = true) : dPut kvs k v = kvs.map fun p => if p.1 = k then (p.1, v) else p := by
  unfold dPut
  rw [if_pos h]
theorem forO_nil {i : Nat} {ds0 : List D} {tg : Tgt} {g : Env → Out} {l : List Nat} (h : ownAt ρ i = some ds0) : forO i ds0 tg g l [] ρ = .nx ρ := by
  unfold forO
  rw [if_pos h]
theorem forO_cons {i : Nat} {ds0 ds : List D} {d : D} {tg : Tgt} {g : Env → Out} {l : List Nat} {as : List (Nat × D)} (h : ownAt ρ i = some ds0) (h1 : tg d = .ok as) (h2 : g (setS ρ as) = .nx ρ1) : forO i ds0 tg g l (d :: ds) ρ = forO i ds0 tg g l ds (clr l ρ1) := by
  rw [forO, if_pos h, h1]
  dsimp only
  rw [h2]
  rfl
theorem forO_to {i : Nat} {ds : List D} {tg : Tgt} {g : Env → Out} {l : List Nat} (h1 : ρ[i]? = some (some (.own false (.lst ds)))) (h2 : noT ρ = true) (h3 : ρ.set i (some (.own true (.lst ds))) = ρ1) (h4 : forO i ds tg g l ds ρ1 = .nx ρ2) : sForO i tg g l ρ = .nx (unp ρ2) := by
  unfold sForO
  rw [h1]
  dsimp only
  rw [if_pos h2, h3, h4]
  rfl
theorem eM_of2 {ty : D → Bool} {g : D → List D → Res D} {fo : VEnv → Res D} {fa : VEnv → Res (List D)} {ρ : VEnv} {a : D} {as : List D} (h0 : fo ρ = .ok a) (h1 : ty a = true) (h2 : fa ρ = .ok as) : eM ty g fo fa ρ = g a as := by
  unfold eM
  rw [h0, Res.bind_ok, if_pos h1, h2, Res.bind_ok]
theorem nd_sub2 {α : Type} [DecidableEq α] : ∀ {a b : List α}, a.Nodup → (∀ x ∈ a, x ∈ b) → a.length ≤ b.length
  | [], _, _, _ => Nat.zero_le _
  | x :: a, b, nd, h => by
    rw [List.nodup_cons] at nd
    have hx := h x List.mem_cons_self
    have := nd_sub2 (a := a) (b := b.erase x) nd.2 fun y hy => (List.mem_erase_of_ne fun e => nd.1 (by rw [← e]; exact hy)).mpr (h y (List.mem_cons_of_mem _ hy))
    rw [List.length_erase_of_mem hx] at this
    have := List.length_pos_of_mem hx
    rw [List.length_cons]
    omega
end
end Du

namespace Du
open PySem PySem.Spec PyProof.Rows L2 Dear
/-! ### what every law's front shares: fractions, tongues, texts -/
@[simp] theorem F_is_whole_int (i : Int) : F_is_whole [.int i] = .ok (.bl true) := by rfl
theorem is_fr (x y : Int) (r : Int) (h : F_divisor [.int y, .int (if x < 0 then -x else x)] = .ok (.int r)) (h1 : 1 ≤ y) : F_is_fraction [.tup [.int x, .int y]] = .ok (.bl (decide (r = 1))) := by
  show outR (B_is_fraction [some (.frz (.tup [.int x, .int y])), none, none]) = _
  simp [B_is_fraction, dLen, h, show ¬ y < 1 by omega]
theorem divisor_e : ∀ (n : Nat) (a : Nat), F_divisor [.int a, .int n] = .ok (.int (Nat.gcd n a)) := by
  have key : ∀ (n a : Nat), outR (B_divisor [some (.frz (.int a)), some (.frz (.int n))]) = .ok (.int (Nat.gcd n a)) := by
    intro n
    induction n using Nat.strongRecOn with
    | ind n ih =>
      intro a
      unfold B_divisor
      rw [sSeq_e, sWhile_e]
      by_cases hn : n = 0
      · subst hn
        simp
      · have hp : 0 < n := by omega
        have := ih (a % n) (Nat.mod_lt _ (by omega)) n
        unfold B_divisor at this
        rw [sSeq_e] at this
        simp [hp, B_divisor_1_u]
        rw [← Int.natCast_emod, this, Nat.gcd_rec n a]
  intro n a
  exact key n a
/-- a price: a fraction above nothing, lowest terms -/
def Price (d : D) : Prop := ∃ x y : Nat, d = .tup [.int x, .int y] ∧ 0 < x ∧ 0 < y ∧ Nat.gcd x y = 1 ∧ x < 2 ^ 62 ∧ y < 2 ^ 62
structure Tg where
  signs : List (Nat × D × D)
  firsts : List (List Nat)
  pairs : List (List Nat)
  long : Nat
def rowD (r : Nat × D × D) : D := .tup [.str (txt [r.1]), r.2.1, r.2.2]
abbrev txs (l : List (List Nat)) : D := .lst (l.map fun v => .str (txt v))
def Tg.d (T : Tg) : D := .tup [.lst (T.signs.map rowD), txs T.firsts, txs T.pairs, .int T.long]
/-- may the sign c come behind what ends on l (no sign, or one)? -/
def Tg.comes (T : Tg) (l : List Nat) (c : Nat) : Bool := if l = [] then !decide ([c] ∈ T.firsts) else !decide (l ++ [c] ∈ T.pairs)
/-- the texts one sign longer than w -/
def Tg.longer (T : Tg) (w : List Nat) : List (List Nat) := (T.signs.filter fun r => T.comes (lastL w) r.1).map fun r => w ++ [r.1]
def Tg.step (T : Tg) (l : List (List Nat)) : List (List Nat) := l.flatMap T.longer
def Tg.level (T : Tg) : Nat → List (List Nat)
  | 0 => [[]]
  | n + 1 => T.step (T.level n)
theorem longer_len (T : Tg) (w : List Nat) : (T.longer w).length ≤ T.signs.length := by
  unfold Tg.longer
  rw [List.length_map]
  exact List.length_filter_le _ _
theorem step_len (T : Tg) : ∀ l : List (List Nat), (T.step l).length ≤ l.length * T.signs.length
  | [] => by simp [Tg.step]
  | w :: r => by
    have h1 := longer_len T w
    have h2 := step_len T r
    unfold Tg.step at h2 ⊢
    rw [List.flatMap_cons, List.length_append, List.length_cons, Nat.add_mul]
    omega
/-- all texts up to n signs, shorter ones first -/
def Tg.upto (T : Tg) : Nat → List (List Nat)
  | 0 => []
  | n + 1 => T.upto n ++ T.level (n + 1)
theorem level_w (T : Tg) : ∀ (n : Nat) (w : List Nat), w ∈ T.level n → w.length = n
  | 0, w, h => by
    simp [Tg.level] at h
    subst h
    rfl
  | n + 1, w, h => by
    obtain ⟨v, hv, hw⟩ := List.mem_flatMap.mp (show w ∈ (T.level n).flatMap T.longer from h)
    obtain ⟨r, _, rfl⟩ := List.mem_map.mp hw
    rw [List.length_append, level_w T n v hv]
    rfl
theorem level_len (T : Tg) : ∀ n, (T.level n).length ≤ T.signs.length ^ n
  | 0 => by simp [Tg.level]
  | n + 1 => by
    have h1 := step_len T (T.level n)
    have h2 := Nat.mul_le_mul_right T.signs.length (level_len T n)
    rw [Nat.pow_succ]
    exact Nat.le_trans h1 h2
theorem level_le (T : Tg) (hs : T.signs.length ≤ 6) (n : Nat) : (T.level n).length ≤ 6 ^ n := Nat.le_trans (level_len T n) (Nat.pow_le_pow_left hs n)
theorem upto_le (T : Tg) (hs : T.signs.length ≤ 6) : ∀ n, (T.upto n).length ≤ 2 * 6 ^ n
  | 0 => by simp [Tg.upto]
  | n + 1 => by
    have h1 := upto_le T hs n
    have h2 := level_le T hs (n + 1)
    unfold Tg.upto
    rw [List.length_append, Nat.pow_succ] at *
    omega
theorem six {n : Nat} (h : n ≤ 8) : 6 ^ n ≤ 1679616 := Nat.le_trans (Nat.pow_le_pow_right (by decide) h) (by decide)
theorem rng_e (n : Nat) (h : n ≤ 1000) : dRange [.int (n : Nat)] = .ok ((List.range' 0 n).map fun i => D.int (i : Nat)) := by
  rw [dRange1 (by omega) (by omega), Int.toNat_natCast]
  unfold rangeD
  rw [List.range_eq_range']
  congr 1
  refine List.map_congr_left fun i _ => ?_
  rw [Int.zero_add]
/-- a source of draws: what is left of the cell, and the seed -/
def Src (d : D) : Prop := ∃ c s : Int, d = .lst [.int c, .int s] ∧ 0 ≤ s ∧ s < 2 ^ 31
end Du

namespace Du
open PySem PySem.Spec PyProof.Rows L2 Dear
/-! ### the program lets a good tongue by -/
theorem dAll_true {α : Type} (l : List α) (q : α → D) (h : ∀ a ∈ l, q a = .bl true) : dAll [.lst (l.map q)] = .ok (.bl true) := by
  have e : l.map q = (l.map fun _ => true).map D.bl := by
    rw [List.map_map]
    exact List.map_congr_left fun a ha => by rw [h a ha]; rfl
  rw [e]
  show (match asBls _ with | some bs => Res.ok (D.bl (bs.all id)) | none => .bad) = _
  rw [asBls_map]
  simp
theorem filter_yes {l : List D} : l.filter (fun _ => true) = l := List.filter_eq_self.mpr fun _ _ => rfl
theorem is_fraction_e {d : D} (h : Price d) : F_is_fraction [d] = .ok (.bl true) := by
  obtain ⟨x, y, rfl, h1, h2, h3, h4, h5⟩ := h
  have e := divisor_e x y
  have := is_fr x y (Nat.gcd x y : Nat) (by rw [if_neg (by omega)]; exact e) (by omega)
  rw [this, h3]
  rfl
theorem is_price_e {d : D} (h : Price d) : F_is_price [d] = .ok (.bl true) := by
  have e := is_fraction_e h
  obtain ⟨x, y, rfl, h1, h2, h3, h4, h5⟩ := h
  show outR (B_is_price [some (.frz (.tup [.int x, .int y]))]) = _
  simp [B_is_price_u, e, h1]
theorem abc_mem (c : Nat) (h1 : 97 ≤ c) (h2 : c ≤ 122) : c ∈ (Str.ofString "abcdefghijklmnopqrstuvwxyz").cps.toList := by
  have : ∀ i : Fin 26, 97 + i.val ∈ (Str.ofString "abcdefghijklmnopqrstuvwxyz").cps.toList := by decide +kernel
  have := this ⟨c - 97, by omega⟩
  rwa [show 97 + (c - 97) = c by omega] at this
theorem dIn_sign {neg : Bool} {c : Nat} {b : Str} : dIn neg (.str (txt [c])) (.str b) = .ok (.bl (neg ^^ decide (c ∈ b.cps.toList))) := rfl
theorem is_letter_e {c : Nat} (h1 : 97 ≤ c) (h2 : c ≤ 122) : F_is_letter [.str (txt [c])] = .ok (.bl true) := by
  show outR (B_is_letter [some (.frz (.str (txt [c])))]) = _
  simp [B_is_letter_u, txt_length, dIn_sign, abc_mem c h1 h2]
structure GoodRow (r : Nat × D × D) : Prop where
  lo : 97 ≤ r.1
  hi : r.1 ≤ 122
  pr : Price r.2.1
  la : r.2.2 = .non ∨ Price r.2.2
theorem is_sign_e {r : Nat × D × D} (h : GoodRow r) : F_is_sign [rowD r] = .ok (.bl true) := by
  show outR (B_is_sign [some (.frz (rowD r)), none, none, none]) = _
  rcases h.la with e | e
  · simp [B_is_sign_u, rowD, is_letter_e h.lo h.hi, is_price_e h.pr, e]
  · have e2 : isNon r.2.2 = false := by obtain ⟨x, y, e3, _⟩ := e; rw [e3]; rfl
    simp [B_is_sign_u, rowD, is_letter_e h.lo h.hi, is_price_e h.pr, is_price_e e, e2]
/-- what every law's tongue has -/
structure Good (T : Tg) : Prop where
  lo : 2 ≤ T.signs.length
  hi : T.signs.length ≤ 6
  row : ∀ r ∈ T.signs, GoodRow r
  nd : (T.signs.map (·.1)).Nodup
  fs : ∀ v ∈ T.firsts, ∃ c, v = [c] ∧ c ∈ T.signs.map (·.1)
  fnd : T.firsts.Nodup
  ps : ∀ v ∈ T.pairs, ∃ a b, v = [a, b] ∧ a ∈ T.signs.map (·.1) ∧ b ∈ T.signs.map (·.1)
  pnd : T.pairs.Nodup
  fl : T.firsts.length ≤ 1000
  pl : T.pairs.length ≤ 1000
  l0 : 1 ≤ T.long
  l1 : T.long ≤ 8
theorem dd_len' {l : List Str} (h : l.Nodup) : (Dear.dd l).length = l.length := by
  unfold Dear.dd
  rw [Dear.dd_nodup [] h]
  rfl
theorem are_signs_e {T : Tg} (h : Good T) : F_are_signs [.lst (T.signs.map rowD)] = .ok (.bl true) := by
  have h0 := h.lo
  have h1 := h.hi
  have hl : (T.signs.map rowD).length ≤ 16777215 := by rw [List.length_map]; omega
  have c1 : eComp [1] (iAny (eVar 0)) (tgN 1) bYes (eCall F_is_sign (aCons (eVar 1) aNil)) [some (.lst (T.signs.map rowD)), none] = .ok (.lst ((T.signs.map rowD).map fun _ => .bl true)) := by
    rw [eComp_of (ds := T.signs.map rowD) (fun _ => true) (fun _ => .bl true) (by simp) hl, filter_yes]
    intro d hd
    obtain ⟨r, hr, rfl⟩ := List.mem_map.mp hd
    refine ⟨_, rfl, by simp, by simp, fun _ => ?_⟩
    simp [is_sign_e (h.row r hr)]
  have c2 : eComp [1] (iAny (eVar 0)) (tgN 1) bYes (eOp dIx (eVar 1) (eC (.int 0))) [some (.lst (T.signs.map rowD)), none] = .ok (.lst ((T.signs.map fun r => txt [r.1]).map D.str)) := by
    have : (T.signs.map fun r => txt [r.1]).map D.str = ((T.signs.map rowD)).map fun d => match d with | .tup (x :: _) => x | _ => .non := by
      rw [List.map_map, List.map_map]
      exact List.map_congr_left fun r _ => rfl
    rw [this, eComp_of (ds := T.signs.map rowD) (fun _ => true) (fun d => match d with | .tup (x :: _) => x | _ => .non) (by simp) hl, filter_yes]
    intro d hd
    obtain ⟨r, hr, rfl⟩ := List.mem_map.mp hd
    refine ⟨_, rfl, by simp, by simp, fun _ => ?_⟩
    simp [rowD]
  have a1 := dAll_true T.signs ((fun _ => D.bl true) ∘ rowD) (fun _ _ => rfl)
  have nd : (T.signs.map fun r => txt [r.1]).Nodup := by
    exact List.pairwise_map.mpr ((List.pairwise_map.mp h.nd).imp fun hne e => hne (by simpa using txt_inj e))
  have c3 : eLenSet (eComp [1] (iAny (eVar 0)) (tgN 1) bYes (eOp dIx (eVar 1) (eC (.int 0)))) [some (.lst (T.signs.map rowD)), none] = .ok (.int T.signs.length) := by
    unfold eLenSet
    rw [c2, Res.bind_ok]
    show (match asStrs _ with | some zs => _ | none => _) = _
    rw [asStrs_map]
    have e := dd_len' nd
    rw [List.length_map] at e
    dsimp only
    rw [if_pos (Nat.ble_eq_true_of_le (by rw [List.length_map]; omega)), e]
  show outR (B_are_signs [some (.frz (.lst (T.signs.map rowD))), none]) = _
  simp [B_are_signs_u, show T.signs.length ≤ 16777215 by omega, show (2 : Int) ≤ T.signs.length by omega, show (T.signs.length : Int) ≤ 6 by omega, c1, a1, c3]
theorem cutD_pre {α : Type} {xs : List α} {j : Nat} : cutD xs none (some (j : Int)) = xs.take j := by
  unfold cutD
  rw [HT.sIx_none, HT.sIx_nat, List.drop_zero, Nat.sub_zero]
  by_cases h : j ≤ xs.length
  · rw [Nat.min_eq_left h]
  · rw [Nat.min_eq_right (by omega), List.take_length, List.take_of_length_le (by omega)]
theorem numbered_mem : ∀ {ds : List D} {k : Nat} {d : D}, d ∈ numbered k ds → ∃ i x, ds[i]? = some x ∧ d = .tup [.int ((k + i : Nat) : Int), x]
  | [], _, _, h => by cases h
  | x :: r, k, d, h => by
    rcases List.mem_cons.mp (show d ∈ _ :: numbered (k + 1) r from h) with e | e
    · exact ⟨0, x, rfl, by rw [e]; rfl⟩
    · obtain ⟨i, y, h1, h2⟩ := numbered_mem e
      exact ⟨i + 1, y, h1, by rw [h2, show k + 1 + i = k + (i + 1) by omega]⟩
theorem unlike_e {l : List (List Nat)} {n : Nat} {cs : List Nat} (hn : n ≤ 1000) (hl : l.length ≤ 16777215) (nd : l.Nodup) (h : ∀ v ∈ l, v.length = n ∧ ∀ c ∈ v, c ∈ cs) : F_are_unlike_texts [txs l, .int n, txs (cs.map fun c => [c])] = .ok (.bl true) := by
  have turn : ∀ d ∈ numbered 0 (l.map fun v => D.str (txt v)), ∃ as ρ', tgT [(tgN 3), (tgN 4)] d = .ok as ∧ B_are_unlike_texts_1 (setS [some (.frz (txs l)), some (.frz (.int n)), some (.frz (txs (cs.map fun c => [c]))), none, none, none] as) = .nx ρ' ∧ clr [3, 4, 5] ρ' = [some (.frz (txs l)), some (.frz (.int n)), some (.frz (txs (cs.map fun c => [c]))), none, none, none] := by
    intro d hd
    obtain ⟨i, x, h1, rfl⟩ := numbered_mem hd
    rw [Nat.zero_add]
    rw [List.getElem?_map] at h1
    obtain ⟨v, h2, rfl⟩ := Option.map_eq_some_iff.mp h1
    have hv := h v (List.mem_of_getElem? h2)
    have ni : ¬ v ∈ l.take i := by
      intro m
      obtain ⟨k, hk, e⟩ := List.mem_iff_getElem.mp m
      rw [List.getElem_take] at e
      rw [List.length_take] at hk
      obtain ⟨hi, e2⟩ := List.getElem?_eq_some_iff.mp h2
      have := (List.getElem_inj nd).mp (e.trans e2.symm)
      omega
    have c1 : ∀ x5, eComp [5] (iAny (eVar 4)) (tgN 5) bYes (eOp (dIn false) (eVar 5) (eVar 2)) [some (txs l), some (.int n), some (txs (cs.map fun c => [c])), some (.int i), some (.str (txt v)), x5] = .ok (.lst (v.map fun _ => D.bl true)) := by
      intro x5
      have sv : signs (txt v) = v.map fun c => D.str (txt [c]) := by unfold signs; rw [txt_list]; rfl
      rw [eComp_of (ds := signs (txt v)) (fun _ => true) (fun _ => .bl true) (by simp) (by rw [sv, List.length_map, hv.1]; omega), filter_yes, sv, List.map_map]
      · rfl
      · intro d hd
        rw [sv] at hd
        obtain ⟨c, hc, rfl⟩ := List.mem_map.mp hd
        refine ⟨_, rfl, by simp, by simp, fun _ => ?_⟩
        have hcs := hv.2 c hc
        have := dIn_txts (neg := false) (w := [c]) (l := cs.map fun c => [c])
        simp [hcs] at this
        simp [txs, this]
    have a1 := dAll_true v (fun _ => D.bl true) (fun _ _ => rfl)
    have i1 : dIn false (.str (txt v)) (.lst ((l.map fun v => D.str (txt v)).take i)) = .ok (.bl false) := by rw [← List.map_take, dIn_txts]; simp [ni]
    have s1 : dSl (txs l) none (some (i : Int)) = .ok (.lst ((l.map fun v => D.str (txt v)).take i)) := by
      show Res.ok (D.lst (cutD _ none _)) = _
      rw [cutD_pre]
    refine ⟨_, [some (.frz (txs l)), some (.frz (.int n)), some (.frz (txs (cs.map fun c => [c]))), some (.frz (.int i)), some (.frz (.str (txt v))), none], rfl, ?_, rfl⟩
    have c2 := c1 none
    have l1 : v.length ≤ 16777215 := by rw [hv.1]; omega
    simp [B_are_unlike_texts_1_u, txt_length, hv.1, s1, i1, c2, a1, show n ≤ 16777215 by omega]
  show outR (B_are_unlike_texts [some (.frz (txs l)), some (.frz (.int n)), some (.frz (txs (cs.map fun c => [c]))), none, none, none]) = _
  have f := forL_same turn
  have e1 : dEnum [txs l] = .ok (numbered 0 (l.map fun v => D.str (txt v))) := rfl
  have k1 : isKind "list" (txs l) = .ok (.bl true) := by simp
  simp [B_are_unlike_texts_u, e1, f, k1]
theorem look_e {T : Tg} (h : Good T) : F_look_at_tongue [T.d] = .ok .non := by
  have h0 := h.lo
  have h1 := h.hi
  have hl : (T.signs.map rowD).length ≤ 16777215 := by rw [List.length_map]; omega
  have c2 : ∀ x0 x2 x3 x4 x5 : Option D, eComp [6] (iAny (eVar 1)) (tgN 6) bYes (eOp dIx (eVar 6) (eC (.int 0))) [x0, some (.lst (T.signs.map rowD)), x2, x3, x4, x5, none] = .ok (txs ((T.signs.map (·.1)).map fun c => [c])) := by
    intro x0 x2 x3 x4 x5
    have : ((T.signs.map (·.1)).map fun c => [c]).map (fun v => D.str (txt v)) = ((T.signs.map rowD)).map fun d => match d with | .tup (x :: _) => x | _ => .non := by
      rw [List.map_map, List.map_map, List.map_map]
      exact List.map_congr_left fun r _ => rfl
    unfold txs
    rw [this, eComp_of (ds := T.signs.map rowD) (fun _ => true) (fun d => match d with | .tup (x :: _) => x | _ => .non) (by simp) hl, filter_yes]
    intro d hd
    obtain ⟨r, hr, rfl⟩ := List.mem_map.mp hd
    refine ⟨_, rfl, by simp, by simp, fun _ => ?_⟩
    simp [rowD]
  have u1 := unlike_e (n := 1) (cs := T.signs.map (·.1)) (by omega) (by have := h.fl; omega) h.fnd (fun v hv => by
    obtain ⟨c, e, m⟩ := h.fs v hv
    subst e
    exact ⟨rfl, fun x hx => by rw [List.mem_singleton.mp hx]; exact m⟩)
  have ph : ∀ v ∈ T.pairs, v.length = 2 ∧ ∀ c ∈ v, c ∈ T.signs.map (·.1) := fun v hv => by
    obtain ⟨a, b, e, m1, m2⟩ := h.ps v hv
    subst e
    refine ⟨rfl, fun x hx => ?_⟩
    rcases List.mem_cons.mp hx with e | hx
    · rw [e]; exact m1
    · rw [List.mem_singleton.mp hx]; exact m2
  have u2 := unlike_e (n := 2) (cs := T.signs.map (·.1)) (by omega) (by have := h.pl; omega) h.pnd ph
  have w1 : F_is_whole [.int (T.long : Nat)] = .ok (.bl true) := by rfl
  have l0 := h.l0
  have l1 := h.l1
  show outR (B_look_at_tongue [some (.frz T.d), none, none, none, none, none, none]) = _
  have s1 := are_signs_e h
  simp at u1 u2
  simp [B_look_at_tongue_u, Tg.d, s1, c2, u1, u2, w1, show (1 : Int) ≤ T.long by omega, show (T.long : Int) ≤ 8 by omega]
end Du

namespace Du
open PySem PySem.Spec PyProof.Rows L2 Dear
/-! ### letters by a start and a step -/
abbrev abcB : Str := "abcdefghijklmnopqrstuvwxyz"
theorem abcB_at (i : Nat) (h : i < 26) : atI abcB.cps.toList (i : Int) = some (97 + i) := by
  have : ∀ k : Fin 26, abcB.cps.toList[k.val]? = some (97 + k.val) := by decide +kernel
  rw [atI_nat (by omega), Int.toNat_natCast]
  exact this ⟨i, h⟩
theorem abcB_len : abcB.length = 26 := by decide +kernel
theorem dIx_abcB (i : Nat) (h : i < 26) : dIx (.str abcB) (.int (i : Nat)) = .ok (.str (txt [97 + i])) := by
  show (if fit abcB.length = true then match atI abcB.cps.toList (i : Int) with | some c => Res.ok (D.str ⟨#[c]⟩) | none => .bad else .bad) = _
  rw [if_pos (fit_of (by rw [abcB_len]; decide)), abcB_at i h]
  rfl
def codeB (start step k : Nat) : Nat := 97 + (start + step * k) % 26
def Stp (st : Nat) : Prop := st = 1 ∨ st = 3 ∨ st = 7 ∨ st = 25
theorem codeB_nd {start st : Nat} (h : Stp st) {n : Nat} (hn : n ≤ 26) : ((List.range n).map (codeB start st)).Nodup := by
  refine List.pairwise_map.mpr (List.nodup_range.imp_of_mem ?_)
  intro a b ha hb ne e
  rw [List.mem_range] at ha hb
  unfold codeB at e
  rcases h with rfl | rfl | rfl | rfl <;> omega
theorem pick_step {k : Int} (h0 : 0 ≤ k) (h1 : k < 4) : ∃ m : Nat, atI [D.int 1, .int 3, .int 7, .int 25] k = some (.int m) ∧ Stp m := by
  rw [atI_nat h0]
  have : k = 0 ∨ k = 1 ∨ k = 2 ∨ k = 3 := by omega
  rcases this with rfl | rfl | rfl | rfl
  · exact ⟨1, rfl, .inl rfl⟩
  · exact ⟨3, rfl, .inr (.inl rfl)⟩
  · exact ⟨7, rfl, .inr (.inr (.inl rfl))⟩
  · exact ⟨25, rfl, .inr (.inr (.inr rfl))⟩
end Du

namespace Du
open PySem PySem.Spec PyProof.Rows L2 Dear
/-! ### the words of a tongue (plain) -/
theorem lastL_eq {w : List Nat} : lastL w = w.getLast?.toList := by
  unfold lastL
  cases w.getLast? <;> rfl
def Tg.codes (T : Tg) : List Nat := T.signs.map (·.1)
/-- may a word end with the sign c? -/
def Tg.ends (T : Tg) (c : Nat) : Bool := T.signs.any fun r => r.1 == c && !isNon r.2.2
def Tg.isW (T : Tg) (w : List Nat) : Bool := match w.getLast? with
  | some c => T.ends c
  | none => false
@[simp] theorem isW_nil {T : Tg} : T.isW [] = false := rfl
@[simp] theorem isW_snoc {T : Tg} {w : List Nat} {c : Nat} : T.isW (w ++ [c]) = T.ends c := by unfold Tg.isW; rw [List.getLast?_concat]
theorem nd_inj {α β : Type} {f : α → β} {a b : α} : ∀ {l : List α}, (l.map f).Nodup → a ∈ l → b ∈ l → f a = f b → a = b
  | [], _, h, _, _ => by cases h
  | x :: l, nd, ha, hb, e => by
    rw [List.map_cons, List.nodup_cons] at nd
    rcases List.mem_cons.mp ha with e1 | h1 <;> rcases List.mem_cons.mp hb with e2 | h2
    · rw [e1, e2]
    · exact absurd (List.mem_map.mpr ⟨b, h2, by rw [← e, e1]⟩) nd.1
    · exact absurd (List.mem_map.mpr ⟨a, h1, by rw [e, e2]⟩) nd.1
    · exact nd_inj nd.2 h1 h2 e
theorem ends_of {T : Tg} (nd : T.codes.Nodup) {r : Nat × D × D} (h : r ∈ T.signs) : T.ends r.1 = !isNon r.2.2 := by
  unfold Tg.ends
  rw [Bool.eq_iff_iff, List.any_eq_true]
  constructor
  · rintro ⟨q, hq, e⟩
    rw [Bool.and_eq_true, beq_iff_eq] at e
    have : q = r := nd_inj nd hq h e.1
    subst this
    exact e.2
  · intro e
    exact ⟨r, h, by rw [beq_self_eq_true, e]; rfl⟩
/-- can an end be reached from the sign c within k more signs? -/
def Tg.reach (T : Tg) : Nat → Nat → Bool
  | 0, c => T.ends c
  | k + 1, c => T.reach k c || T.signs.any fun r => T.reach k r.1 && T.comes [c] r.1
theorem reach_ends {T : Tg} {c : Nat} (h : T.ends c = true) : ∀ k, T.reach k c = true
  | 0 => h
  | k + 1 => by unfold Tg.reach; rw [reach_ends h k]; rfl
def Tg.codesR (T : Tg) (k : Nat) : List Nat := (T.signs.filter fun r => T.reach k r.1).map (·.1)
/-- the texts that words_of keeps -/
def Tg.stepR (T : Tg) (k : Nat) (l : List (List Nat)) : List (List Nat) := l.flatMap fun w => ((T.codesR k).filter fun c => T.comes (lastL w) c).map fun c => w ++ [c]
def Tg.okR (T : Tg) (k : Nat) (w : List Nat) : Bool := match w.getLast? with
  | some c => T.reach k c
  | none => true
@[simp] theorem okR_snoc {T : Tg} {k : Nat} {w : List Nat} {c : Nat} : T.okR k (w ++ [c]) = T.reach k c := by unfold Tg.okR; rw [List.getLast?_concat]
theorem isW_ok {T : Tg} {w : List Nat} (h : T.isW w = true) (k : Nat) : T.okR k w = true := by
  unfold Tg.isW at h
  unfold Tg.okR
  cases e : w.getLast? with
  | none => rfl
  | some c => rw [e] at h; exact reach_ends h k
theorem longer_R {T : Tg} (k : Nat) (w : List Nat) : ((T.codesR k).filter fun c => T.comes (lastL w) c).map (fun c => w ++ [c]) = (T.longer w).filter (T.okR k) := by
  unfold Tg.codesR Tg.longer
  rw [List.filter_map, List.map_map, List.filter_map]
  rw [List.filter_filter, List.filter_filter]
  congr 1
  refine List.filter_congr fun r _ => ?_
  simp [Bool.and_comm]
theorem longer_none {T : Tg} {k : Nat} {w : List Nat} (h : T.okR (k + 1) w = false) : (T.longer w).filter (T.okR k) = [] := by
  unfold Tg.okR at h
  cases e : w.getLast? with
  | none => rw [e] at h; cases h
  | some c =>
    rw [e] at h
    unfold Tg.reach at h
    rw [Bool.or_eq_false_iff] at h
    refine List.filter_eq_nil_iff.mpr fun v hv => ?_
    unfold Tg.longer at hv
    obtain ⟨r, hr, rfl⟩ := List.mem_map.mp hv
    obtain ⟨h1, h2⟩ := List.mem_filter.mp hr
    rw [okR_snoc]
    intro hk
    have := List.any_eq_false.mp h.2 r h1
    have e2 : lastL w = [c] := by rw [lastL_eq, e]; rfl
    rw [e2] at h2
    rw [hk, h2] at this
    exact this rfl
theorem flatMap_filter {α β : Type} {p : α → Bool} {f : α → List β} : ∀ {l : List α}, (∀ a ∈ l, p a = false → f a = []) → (l.filter p).flatMap f = l.flatMap f
  | [], _ => rfl
  | a :: l, h => by
    have ih := flatMap_filter (l := l) fun x hx => h x (List.mem_cons_of_mem _ hx)
    rw [List.filter_cons]
    cases e : p a with
    | true => rw [if_pos rfl, List.flatMap_cons, List.flatMap_cons, ih]
    | false => rw [if_neg Bool.false_ne_true, List.flatMap_cons, h a List.mem_cons_self e, ih]; rfl
theorem filter_flatMap' {α β : Type} {p : β → Bool} {f : α → List β} : ∀ {l : List α}, (l.flatMap f).filter p = l.flatMap fun a => (f a).filter p
  | [] => rfl
  | a :: l => by rw [List.flatMap_cons, List.flatMap_cons, List.filter_append, filter_flatMap']
theorem stepR_e {T : Tg} (k n : Nat) : T.stepR k ((T.level n).filter (T.okR (k + 1))) = (T.level (n + 1)).filter (T.okR k) := by
  show _ = ((T.level n).flatMap T.longer).filter (T.okR k)
  rw [filter_flatMap']
  unfold Tg.stepR
  rw [flatMap_filter]
  · congr 1
    funext w
    exact longer_R k w
  · intro w _ h
    rw [longer_R]
    exact longer_none h
theorem levR_isW {T : Tg} (k n : Nat) : ((T.level n).filter (T.okR k)).filter T.isW = (T.level n).filter T.isW := by
  rw [List.filter_filter]
  refine List.filter_congr fun w _ => ?_
  cases e : T.isW w with
  | true => rw [isW_ok e]; rfl
  | false => rfl
theorem level0_R {T : Tg} (k : Nat) : (T.level 0).filter (T.okR k) = [[]] := rfl
def Tg.words (T : Tg) : List (List Nat) := (T.upto T.long).filter T.isW
theorem upto_isW (T : Tg) (n : Nat) : (T.upto (n + 1)).filter T.isW = (T.upto n).filter T.isW ++ (T.level (n + 1)).filter T.isW := by
  show (T.upto n ++ T.level (n + 1)).filter _ = _
  rw [List.filter_append]
/-! how many -/
def Tg.keys (T : Tg) (n : Nat) : List (List Nat) := if n = 0 then [[]] else T.codes.map fun c => [c]
def Tg.cnt (T : Tg) (n : Nat) (k : List Nat) : Nat := (T.level n).countP fun w => decide (lastL w = k)
theorem keys_nd {T : Tg} (nd : T.codes.Nodup) (n : Nat) : (T.keys n).Nodup := by
  unfold Tg.keys
  split
  · simp
  · exact List.pairwise_map.mpr (nd.imp fun ne e => ne (by simpa using e))
theorem level_mem {T : Tg} {n : Nat} {w : List Nat} (h : w ∈ T.level (n + 1)) : ∃ v r, v ∈ T.level n ∧ r ∈ T.signs ∧ T.comes (lastL v) r.1 = true ∧ w = v ++ [r.1] := by
  obtain ⟨v, hv, hw⟩ := List.mem_flatMap.mp (show w ∈ (T.level n).flatMap T.longer from h)
  obtain ⟨r, hr, rfl⟩ := List.mem_map.mp hw
  obtain ⟨h1, h2⟩ := List.mem_filter.mp hr
  exact ⟨v, r, hv, h1, h2, rfl⟩
theorem keys_mem {T : Tg} {n : Nat} {w : List Nat} (h : w ∈ T.level n) : lastL w ∈ T.keys n := by
  cases n with
  | zero =>
    rw [List.mem_singleton.mp (show w ∈ [[]] from h)]
    exact List.mem_singleton.mpr rfl
  | succ n =>
    obtain ⟨v, r, _, hr, _, rfl⟩ := level_mem h
    rw [lastL_snoc]
    show _ ∈ T.codes.map fun c => [c]
    exact List.mem_map.mpr ⟨r.1, List.mem_map.mpr ⟨r, hr, rfl⟩, rfl⟩
theorem one_key {p : List Nat → Bool} {k : List Nat} : ∀ {ks : List (List Nat)}, ks.Nodup → k ∈ ks → ((ks.filter p).map fun q => if k = q then 1 else 0).sum = if p k = true then 1 else 0
  | [], _, h => by cases h
  | q :: ks, nd, h => by
    rw [List.nodup_cons] at nd
    by_cases e : k = q
    · subst e
      have z : ∀ l : List (List Nat), k ∉ l → (l.map fun q => if k = q then 1 else 0).sum = 0 := by
        intro l hl
        induction l with
        | nil => rfl
        | cons a l ih =>
          rw [List.map_cons, List.sum_cons, if_neg (fun e => hl (by rw [e]; exact List.mem_cons_self)), ih fun m => hl (List.mem_cons_of_mem _ m)]
      have nk : k ∉ ks.filter p := fun m => nd.1 (List.mem_filter.mp m).1
      rw [List.filter_cons]
      cases c : p k with
      | true => rw [if_pos rfl, List.map_cons, List.sum_cons, if_pos rfl, z _ nk]; rfl
      | false => rw [if_neg Bool.false_ne_true, z _ nk]; rfl
    · have hk : k ∈ ks := (List.mem_cons.mp h).resolve_left e
      have ih := one_key (p := p) nd.2 hk
      rw [List.filter_cons]
      cases c : p q with
      | true => rw [if_pos rfl, List.map_cons, List.sum_cons, if_neg e, Nat.zero_add, ih]
      | false => rw [if_neg Bool.false_ne_true, ih]
theorem sum_add {α : Type} {f g : α → Nat} : ∀ {l : List α}, (l.map fun a => f a + g a).sum = (l.map f).sum + (l.map g).sum
  | [] => rfl
  | a :: l => by
    rw [List.map_cons, List.sum_cons, List.map_cons, List.sum_cons, List.map_cons, List.sum_cons, sum_add]
    omega
theorem sum_keys {p : List Nat → Bool} {ks : List (List Nat)} (nd : ks.Nodup) : ∀ {l : List (List Nat)}, (∀ w ∈ l, lastL w ∈ ks) → ((ks.filter p).map fun k => l.countP fun w => decide (lastL w = k)).sum = l.countP fun w => p (lastL w)
  | [], _ => by
    have : ∀ l : List (List Nat), (l.map fun _ => 0).sum = 0 := by
      intro l
      induction l with
      | nil => rfl
      | cons a l ih => rw [List.map_cons, List.sum_cons, ih]
    exact this _
  | w :: l, h => by
    have ih := sum_keys (p := p) nd (l := l) fun x hx => h x (List.mem_cons_of_mem _ hx)
    have e : ((ks.filter p).map fun k => (w :: l).countP fun w => decide (lastL w = k)) = (ks.filter p).map fun k => (l.countP fun w => decide (lastL w = k)) + if lastL w = k then 1 else 0 := by
      refine List.map_congr_left fun k _ => ?_
      rw [List.countP_cons]
      simp only [decide_eq_true_eq]
    rw [e, sum_add, ih, one_key nd (h w List.mem_cons_self), List.countP_cons]
theorem longer_cnt {T : Tg} (nd : T.codes.Nodup) {c : Nat} (hc : c ∈ T.codes) (w : List Nat) : ((T.longer w).countP fun v => decide (lastL v = [c])) = if T.comes (lastL w) c = true then 1 else 0 := by
  unfold Tg.longer
  rw [List.countP_map, List.countP_filter]
  have key : ∀ (l : List (Nat × D × D)), (l.map (·.1)).Nodup → c ∈ l.map (·.1) → (l.countP fun r => ((fun v => decide (lastL v = [c])) ∘ fun r : Nat × D × D => w ++ [r.1]) r && T.comes (lastL w) r.1) = if T.comes (lastL w) c = true then 1 else 0 := by
    intro l
    induction l with
    | nil => intro _ h; cases h
    | cons r l ih =>
      intro nd h
      rw [List.map_cons, List.nodup_cons] at nd
      rw [List.countP_cons]
      by_cases e : r.1 = c
      · have z : (l.countP fun r => ((fun v => decide (lastL v = [c])) ∘ fun r : Nat × D × D => w ++ [r.1]) r && T.comes (lastL w) r.1) = 0 := by
          refine List.countP_eq_zero.mpr fun q hq => ?_
          have : q.1 ≠ c := fun e2 => nd.1 (List.mem_map.mpr ⟨q, hq, by rw [e, e2]⟩)
          simp [this]
        rw [z, e]
        simp [e]
      · rw [ih nd.2 ((List.mem_cons.mp h).resolve_left fun e2 => e e2.symm)]
        simp [e]
  exact key T.signs nd hc
theorem sum_if {p : List Nat → Bool} : ∀ {l : List (List Nat)}, (l.map fun w => if p w = true then 1 else 0).sum = l.countP p
  | [] => rfl
  | w :: l => by
    rw [List.map_cons, List.sum_cons, sum_if, List.countP_cons]
    omega
theorem cnt_succ {T : Tg} (nd : T.codes.Nodup) (n : Nat) {c : Nat} (hc : c ∈ T.codes) : T.cnt (n + 1) [c] = (((T.keys n).filter fun k => T.comes k c).map fun k => T.cnt n k).sum := by
  have e := sum_keys (p := fun k => T.comes k c) (keys_nd nd n) (l := T.level n) fun w hw => keys_mem hw
  show ((T.level n).flatMap T.longer).countP _ = (((T.keys n).filter fun k => T.comes k c).map fun k => (T.level n).countP fun w => decide (lastL w = k)).sum
  rw [e, List.countP_flatMap, ← sum_if]
  congr 1
  exact List.map_congr_left fun w _ => longer_cnt nd hc w
theorem cnt_words {T : Tg} (nd : T.codes.Nodup) (n : Nat) : (((T.signs.filter fun r => !isNon r.2.2).map fun r => T.cnt (n + 1) [r.1])).sum = ((T.level (n + 1)).filter T.isW).length := by
  have e := sum_keys (p := fun k => T.isW k) (keys_nd nd (n + 1)) (l := T.level (n + 1)) fun w hw => keys_mem hw
  rw [← List.countP_eq_length_filter]
  have e2 : ((T.level (n + 1)).countP fun w => T.isW (lastL w)) = (T.level (n + 1)).countP T.isW := by
    refine List.countP_congr fun w hw => ?_
    obtain ⟨v, r, _, _, _, rfl⟩ := level_mem hw
    rw [lastL_snoc, isW_snoc]
    exact Iff.of_eq (congrArg (· = true) (isW_snoc (w := [])))
  rw [← e2, ← e]
  congr 1
  show _ = ((T.codes.map fun c => [c]).filter fun k => T.isW k).map fun k => T.cnt (n + 1) k
  unfold Tg.codes
  rw [List.map_map, List.filter_map, List.map_map]
  have e3 : (T.signs.filter fun r => !isNon r.2.2) = T.signs.filter ((fun k => T.isW k) ∘ ((fun c => [c]) ∘ fun r : Nat × D × D => r.1)) := by
    refine List.filter_congr fun r hr => ?_
    rw [← ends_of nd hr]
    exact (isW_snoc (w := [])).symm
  rw [e3]
  rfl
theorem cnt_all {T : Tg} (nd : T.codes.Nodup) (n : Nat) : ((T.keys n).map fun k => T.cnt n k).sum = (T.level n).length := by
  have e := sum_keys (p := fun _ => true) (keys_nd nd n) (l := T.level n) fun w hw => keys_mem hw
  rw [List.filter_eq_self.mpr fun _ _ => rfl] at e
  show ((T.keys n).map fun k => (T.level n).countP fun w => decide (lastL w = k)).sum = _
  rw [e, List.countP_true]
theorem upto_sum (T : Tg) : ∀ n, ((List.range n).map fun i => (T.level (i + 1)).length).sum = (T.upto n).length
  | 0 => rfl
  | n + 1 => by
    rw [List.range_succ, List.map_append, List.sum_append, upto_sum T n]
    show _ = (T.upto n ++ T.level (n + 1)).length
    rw [List.length_append]
    simp
theorem words_sum (T : Tg) : ∀ n, ((List.range n).map fun i => ((T.level (i + 1)).filter T.isW).length).sum = ((T.upto n).filter T.isW).length
  | 0 => rfl
  | n + 1 => by
    rw [List.range_succ, List.map_append, List.sum_append, words_sum T n, upto_isW, List.length_append]
    simp
theorem cnt_le {T : Tg} (n : Nat) (k : List Nat) : T.cnt n k ≤ (T.level n).length := List.countP_le_length
end Du

namespace Du
open PySem PySem.Spec PyProof.Rows L2 Dear
set_option maxHeartbeats 400000
/-! ### trees of books -/
def belE (c : Nat) (ends : List (List Nat × Nat)) : List (List Nat × Nat) := (ends.filter fun e => decide (e.1.take 1 = [c])).map fun e => (e.1.drop 1, e.2)
def grB (gr : List (List Nat × Nat) → List D) (c : Nat) : List (List Nat × Nat) → List D
  | [] => []
  | [([], n)] => [.tup [.str (txt [c]), .int (n : Nat)]]
  | l => [.tup [.str (txt [c]), .lst (gr l)]]
def grT (cs : List Nat) : Nat → List (List Nat × Nat) → List D
  | 0, _ => []
  | k + 1, ends => cs.flatMap fun c => grB (grT cs k) c (belE c ends)
abbrev endD (e : List Nat × Nat) : D := .tup [.str (txt e.1), .int (e.2 : Nat)]
abbrev endsD (l : List (List Nat × Nat)) : D := .lst (l.map endD)
abbrev lettD (cs : List Nat) : D := .lst (cs.map fun c => .str (txt [c]))
theorem dSl_drop {w : List Nat} {j : Nat} (h : w.length ≤ 16777215) : dSl (.str (txt w)) (some (j : Int)) none = .ok (.str (txt (w.drop j))) := by
  have e1 : dSl (.str (txt w)) (some (j : Int)) none = (if fit (txt w).length = true then .ok (.str (cutS (txt w) (some (j : Int)) none)) else .bad) := rfl
  rw [e1, if_pos (fit_of (by rw [txt_length]; exact h))]
  rw [Dear.cut_from]
theorem bel_comp {c : Nat} {ends : List (List Nat × Nat)} (hl : ∀ e ∈ ends, e.1.length ≤ 1000) (hn : ends.length ≤ 1000) (x0 x2 x4 : Option D) :
    eComp [5, 6] (iAny (eVar 1)) (tgT [(tgN 5), (tgN 6)]) (bT (eOp dEq (eSl (eVar 5) pNo (pYes (eC (.int 1)))) (eVar 3))) (eTup (aCons (eSl (eVar 5) (pYes (eC (.int 1))) pNo) (aCons (eVar 6) aNil))) [x0, some (endsD ends), x2, some (.str (txt [c])), x4, none, none] = .ok (endsD (belE c ends)) := by
  unfold belE endsD
  rw [List.map_map]
  refine eComp_map (F := endD) (fun e => decide (e.1.take 1 = [c])) _ rfl (by omega) fun e he => ⟨[(5, .str (txt e.1)), (6, .int (e.2 : Nat))], rfl, by simp, ?_, fun _ => ?_⟩
  · have h1 := dSl_take (w := e.1) (j := 1) (by have := hl e he; omega)
    have h1 : dSl (.str (txt e.1)) none (some 1) = .ok (.str (txt (e.1.take 1))) := h1
    have h2 : (txt (e.1.take 1) = txt [c]) ↔ e.1.take 1 = [c] := ⟨txt_inj, fun z => by rw [z]⟩
    simp [h1, h2]
  · have h1 := dSl_drop (w := e.1) (j := 1) (by have := hl e he; omega)
    have h1 : dSl (.str (txt e.1)) (some 1) none = .ok (.str (txt (e.1.drop 1))) := h1
    simp [h1]

theorem vw_nil {K : PySem.W.Frag} {F : Hp} : Vw K F [] [] := ⟨rfl, fun i d e => by simp at e⟩
theorem vw_cons {K : PySem.W.Frag} {F : Hp} {σ : St} {ρ : VEnv} {v : Option V} {d : Option D} (h : ∀ x, d = some x → ∃ u, v = some u ∧ Dt K F u x) (r : Vw K F σ ρ) : Vw K F (v :: σ) (d :: ρ) := ⟨by rw [List.length_cons, List.length_cons, r.len], fun i e he => by
  cases i with
  | zero =>
    have he : some d = some (some e) := he
    cases he
    obtain ⟨u, rfl, hu⟩ := h e rfl
    exact ⟨u, rfl, hu⟩
  | succ i => exact r.get i e he⟩
theorem vw_some {K : PySem.W.Frag} {F : Hp} {σ : St} {ρ : VEnv} {v : V} {d : D} (h : Dt K F v d) (r : Vw K F σ ρ) : Vw K F (some v :: σ) (some d :: ρ) := vw_cons (fun x e => by cases e; exact ⟨v, rfl, h⟩) r
theorem vw_none {K : PySem.W.Frag} {F : Hp} {σ : St} {ρ : VEnv} {v : Option V} (r : Vw K F σ ρ) : Vw K F (v :: σ) (none :: ρ) := vw_cons (fun x e => nomatch e) r
/-- a loop over something frozen, by an invariant -/
theorem for_by {K : PySem.W.Frag} {J : It} {ds : List D} {F : Hp} {σ : St} {H : Hp} {Dn : Ends} {g : TG} {tb : TS} (y : Yl K F J ds) (P : Nat → St → Hp → Prop) (hF : ∀ i σ H, P i σ H → Same F H) (h0 : P 0 σ H)
    (step : ∀ i d σ H, ds[i]? = some d → P i σ H → ∀ x F' H', Gr F H F' H' → Dt K F' x d → g x σ H' fun σ2 H2 => tb { Dn with nx := P (i + 1), ct := P (i + 1), bk := Dn.nx } σ2 H2)
    (fin : ∀ σ H, P ds.length σ H → Dn.nx σ H) :
    ∃ W : Nat → Nat → St → Hp → Prop, (∃ m, W 0 m σ H) ∧ ∀ i m σ H, W i m σ H →
      (J.stop i H ∧ Dn.nx σ H) ∨ (J.go i H ∧ ∃ N : St → Hp → Prop, (∀ σ' H', N σ' H' → ∃ m', m' < m ∧ W (i + 1) m' σ' H') ∧ ∀ x H', J.yld i H x H' → g x σ H' fun σ2 H2 => tb { Dn with nx := N, ct := N, bk := Dn.nx } σ2 H2) := by
  refine ⟨fun i m σ2 H2 => m = ds.length - i ∧ i ≤ ds.length ∧ P i σ2 H2, ⟨ds.length, by simp, Nat.zero_le _, h0⟩, ?_⟩
  rintro i m σ2 H2 ⟨rfl, hi, hp⟩
  by_cases hlt : i < ds.length
  · refine .inr ⟨y.go i H2 hlt (hF _ _ _ hp), P (i + 1), fun σ' H' p' => ⟨ds.length - (i + 1), by omega, rfl, hlt, p'⟩, fun x H3 yx => ?_⟩
    obtain ⟨F4, g4, dx⟩ := y.yld i ds[i] F H2 x H3 (List.getElem?_eq_getElem hlt) (.refl _) (hF _ _ _ hp) yx
    exact step i ds[i] σ2 H2 (List.getElem?_eq_getElem hlt) hp x F4 H3 g4 dx
  · have e : i = ds.length := by omega
    subst e
    exact .inl ⟨y.stop H2 (hF _ _ _ hp), fin σ2 H2 hp⟩
/-- name = [..], frozen -/
theorem ps_lcF {K : PySem.W.Frag} {X : Cx} {y : Str} {py : Pos} {elt tg iter : Expr} {ifs : List Expr} {scope : Scope} {pos spos : Pos} {it : VEnv → Res (List D)} {g : Tgt} {c : VEnv → Res Bool} {f : VEnv → Res D} (i : Nat) (own : List (Str × Nat)) (hN : X.N.Nodup) (hi : FI K none X tg iter it)
    (hg : ∀ (s : Shared) (H : Hp) (C : Addr) (cl : List (Str × Addr)) (fp : List Addr), FG K (X.blk s H scope (compEnvC scope cl C X.env) fp) tg g) (ht : ∀ (s : Shared) (H : Hp) (C : Addr) (cl : List (Str × Addr)) (fp : List Addr), FTs K (X.blk s H scope (compEnvC scope cl C X.env) fp) ifs c)
    (he : ∀ (s : Shared) (H : Hp) (C : Addr) (cl : List (Str × Addr)) (fp : List Addr), FE K none (X.blk s H scope (compEnvC scope cl C X.env) fp) elt f)
    (ok : BlkOk X.N X.env.scope scope own) (hsw : swapsWith (.ListComp elt [⟨tg, iter, ifs, 0⟩] scope pos) (some (.Name y py)) spos.line X.env = pure true) (hy : X.N[i]? = some y := by rfl) (hyl : X.env.scope.names.lookup y = some .local := by rfl) (hc : X.calm = true := by rfl) (hs : ∀ x, foldedSetIterable iter X.env x = pure x := by intro _; rfl) :
    PS X (.Assign [.Name y py] (.ListComp elt [⟨tg, iter, ifs, 0⟩] scope pos) spos) (tAsg (tF K none (eComp (own.map (·.2)) it g c f)) (gName i)) :=
  PS.to (ps_setLc (i := i) hc hN hy hyl hsw hi ok hg ht he hs) fun Dn σ H ⟨F, ρ, sF, vw, k⟩ => ⟨F, ρ, sF, vw, Po.seq k fun ds J F1 H1 g1 y k1 p hp => by
    obtain ⟨hz, k2⟩ := Po.ite k1
    cases e : compL g c f (wipeD ρ (own.map (·.2))) (own.map (·.2)) ds with
    | exc x => rw [e] at k2; exact k2.elim
    | bad => rw [e] at k2; exact k2.elim
    | ok es =>
      rw [e] at k2
      exact comp_loop (Q := fun v H' => gName i v σ H' Dn.nx) g1.fh (vw.same g1.ff) y hp hz e fun F' H' acc g fp ep dd => k2 _ (upd F' p (.lst acc)) H' (g.freeze hp fp ep) (.lst upd_same (dd.same (sm_upd fp)))⟩
def spGr (K : PySem.W.Frag) (N : Nat) : Sp := fun vs H Q _ => ∃ (v1 v2 : V) (F : Hp) (cs : List Nat) (ends : List (List Nat × Nat)), vs = [v1, v2] ∧ Same F H ∧ Dt K F v1 (lettD cs) ∧ Dt K F v2 (endsD ends) ∧ cs.length ≤ 6 ∧ ends.length ≤ 1000 ∧ (∀ e ∈ ends, e.1.length + 1 ≤ N) ∧ 1 ≤ N ∧ N ≤ 1000 ∧ (∀ e ∈ ends, Asc e.1) ∧
  ∀ v R H', Same H H' → Same R H' → (∀ a o, R a = some o → H a = none) → Dt K R v (.lst (grT cs N ends)) → Q v H'
def isOne : List (List Nat × Nat) → Bool
  | [([], _)] => true
  | _ => false
theorem belE_len {c : Nat} {ends : List (List Nat × Nat)} {N : Nat} (h : ∀ e ∈ ends, e.1.length + 1 ≤ N + 1) : ∀ e ∈ belE c ends, e.1.length + 1 ≤ N := fun e he => by
  obtain ⟨a, ha, rfl⟩ := List.mem_map.mp he
  obtain ⟨h1, h2⟩ := List.mem_filter.mp ha
  have h3 : a.1.take 1 = [c] := of_decide_eq_true h2
  have h4 := h a h1
  have h5 : a.1 ≠ [] := fun z => by rw [z] at h3; cases h3
  have h6 := List.length_pos_iff.mpr h5
  show (a.1.drop 1).length + 1 ≤ N
  rw [List.length_drop]
  omega
theorem belE_asc {c : Nat} {ends : List (List Nat × Nat)} (h : ∀ e ∈ ends, Asc e.1) : ∀ e ∈ belE c ends, Asc e.1 := fun e he => by
  obtain ⟨a, ha, rfl⟩ := List.mem_map.mp he
  exact fun x hx => h a (List.mem_filter.mp ha).1 x (List.mem_of_mem_drop hx)
theorem ends_ly {l : List (List Nat × Nat)} (h : ∀ e ∈ l, Asc e.1) : Ly 2 (endsD l) := .lst fun d hd => by
  obtain ⟨e, he, rfl⟩ := List.mem_map.mp hd
  exact .tup (forall_cons (.txt (h e he)) (forall_cons .int forall_nil))
theorem ne_test {cs : List Nat} {l : List (List Nat × Nat)} {c : Nat} (h : ∀ e ∈ l, Asc e.1) (x2 : Option D) : bT (eOp dNe (eVar 4) (eLst aNil)) [some (lettD cs), x2, none, some (.str (txt [c])), some (endsD l), none, none] = .ok (decide (l ≠ [])) := by
  have e1 : dNe (endsD l) (.lst []) = .ok (.bl (!(l.map endD).isEmpty)) := by
    rw [dNe_of ((ends_ly h).lay (by decide)) ((Ly.lst (n := 0) forall_nil).lay (by decide))]
    unfold endsD
    rw [pyEq_nil]
  have e2 : (!(l.map endD).isEmpty) = decide (l ≠ []) := by cases l <;> rfl
  rw [e2] at e1
  generalize endsD l = ed at *
  generalize lettD cs = lt
  simp [e1]
theorem grT_step {cs : List Nat} {N : Nat} {ends : List (List Nat × Nat)} {i c : Nat} (h : cs[i]? = some c) : (cs.take (i + 1)).flatMap (fun c => grB (grT cs N) c (belE c ends)) = (cs.take i).flatMap (fun c => grB (grT cs N) c (belE c ends)) ++ grB (grT cs N) c (belE c ends) := by
  rw [List.take_add_one, h, List.flatMap_append]
  simp

theorem one_test {cs : List Nat} {l : List (List Nat × Nat)} {c : Nat} (hl : l.length ≤ 1000) (x2 : Option D) : bAnd (bT (eOp dEq (eCall dLen (aCons (eVar 4) aNil)) (eC (.int 1)))) (bT (eOp dEq (eOp dIx (eOp dIx (eVar 4) (eC (.int 0))) (eC (.int 0))) (eC (.str "")))) [some (lettD cs), x2, none, some (.str (txt [c])), some (endsD l), none, none] = .ok (isOne l) := by
  have dl : dLen [endsD l] = .ok (.int (l.length : Nat)) := by
    show dLen [.lst (l.map endD)] = _
    rw [dLen_lst (by rw [List.length_map]; omega), List.length_map]
  have e0 : (Str.ofString "" : Str) = txt [] := rfl
  match l, hl, dl with
  | [], _, dl =>
    generalize lettD cs = lt
    simp [dl, isOne]
  | [(w, n)], _, dl =>
    have i0 : dIx (endsD [(w, n)]) (.int 0) = .ok (endD (w, n)) := by simp
    have i1 : dIx (endD (w, n)) (.int 0) = .ok (.str (txt w)) := by simp
    generalize endsD [(w, n)] = ed at *
    generalize lettD cs = lt
    have te : (txt w = txt []) ↔ w = [] := ⟨txt_inj, fun z => by rw [z]⟩
    have : isOne [(w, n)] = decide (w = []) := by cases w <;> rfl
    rw [this]
    generalize endD (w, n) = en at *
    simp [dl, i0, i1, e0, te]
  | a :: b :: l, _, dl =>
    have : ¬ (((a :: b :: l).length : Nat) : Int) = 1 := by rw [List.length_cons, List.length_cons]; omega
    have h1 : isOne (a :: b :: l) = false := by cases a with | mk w n => cases w <;> rfl
    rw [h1]
    generalize ((a :: b :: l).length : Nat) = m at *
    generalize endsD (a :: b :: l) = ed at *
    generalize lettD cs = lt
    simp [dl, this]
section
variable {P : Program} {w : World} {K : PySem.W.Frag} {mg : Str → Option Value} {base : Heap}
theorem o_grown (T : Txt K mg) : ∀ N, OkF P w K mg base CX0 (N + 1) "grown" ["letters", "ends"] (spGr K N)
  | 0 => by
    refine T.f_grown.ok c_grown (fun vs H Q E h => ?_) (fun f cdv A outer s H vs Q E hr h => ?_)
    · obtain ⟨_, _, _, _, _, _, _, _, _, _, _, _, h1, _⟩ := h
      omega
    · obtain ⟨_, _, _, _, _, _, _, _, _, _, _, _, h1, _⟩ := h
      omega
  | N + 1 => by
    have ih := o_grown T N
    refine T.f_grown.ok c_grown (fun vs H Q E h => ?_) (fun f cdv A outer s H vs Q E hr h => ?_)
    · obtain ⟨_, _, _, _, _, rfl, _⟩ := h
      rfl
    · obtain ⟨v1, v2, F, cs, ends, rfl, sF, d1, d2, c6, e1000, hle, _, hN, hasc, Z⟩ := h
      refine ⟨_, (pss_cons (ps_set (i := 2) c_grown.nd rfl (Or.inl rfl) (pe_lst pa_nil))
        (pss_cons (ps_for PassesOwn.never rfl (fi_any (K := K) (xm := none) (fe_var 0)) (pg_name (i := 3) c_grown.nd rfl (Or.inr rfl))
        (pss_cons (ps_lcF (K := K) 4 [("rest", 5), ("number", 6)] c_grown.nd (fi_any (fe_var 1)) (fun _ _ _ _ _ => (fg_tup (fgs_cons (fg_name 5 c_grown.nd) (fgs_cons (fg_name 6 c_grown.nd) fgs_nil)))) (fun _ _ _ _ _ => (fts_one (ft_cmp (op_eqA (K := K) hr.units) opd_eq gb_eq (fe_sl (fe_var 5) fo_no (fo_yes fe_int)) (fe_var 3)))) (fun _ _ _ _ _ => (fe_tup (fa_cons (fe_sl (fe_var 5) (fo_yes fe_int) fo_no) (fa_cons (fe_var 6) fa_nil)))) (blkOk_by (own := [("rest", 5), ("number", 6)]) (N := n_grown) (sc := defScope s_grown) (by decide +kernel)) (sw_true rfl rfl rfl (by decide +kernel)))
        (pss_one (ps_if (ft_w (K := K) (xm := none) (fw_and (ft_cmp (op_eqA (K := K) hr.units) opd_eq gb_eq (fe_callB (cr_len (K := K)) cd_len T.b_len (fa_cons (fe_var 4) fa_nil)) fe_int) (fw_and1 (ft_cmp (op_eqA (K := K) hr.units) opd_eq gb_eq (fe_ix (ix_A (K := K) (u1 hr.units)) opd_ix (fe_ix (ix_A (K := K) (u1 hr.units)) opd_ix (fe_var 4) fe_int) fe_int) fe_str))))
        (pss_one (ps_expr (pe_bm PySem.F.plainAttrs_list PySem.F.slot_list_append PySem.F.type_list_append mt_append (pv 2) (pa_cons (pe_tup (pa_cons (pv 3) (pa_cons (fe_ix (K := K) (xm := none) (ix_A (K := K) (u1 hr.units)) opd_ix (fe_ix (ix_A (K := K) (u1 hr.units)) opd_ix (fe_var 4) fe_int) fe_int) pa_nil))) pa_nil))))
        (pss_one (ps_if (ft_cmp (K := K) (xm := none) (op_neA (K := K) hr.units) opd_ne gb_ne (fe_var 4) (fe_lst fa_nil))
        (pss_one (ps_expr (pe_bm PySem.F.plainAttrs_list PySem.F.slot_list_append PySem.F.type_list_append mt_append (pv 2) (pa_cons (pe_tup (pa_cons (pv 3) (pa_cons (pe_c (hk := Nat.le_refl _) ih hr (pa_cons (pv 0) (pa_cons (pv 4) pa_nil))) pa_nil))) pa_nil))))
        pss_nil))))))
        (pss_one (ps_ret (pv 2))))), ?_⟩
      refine ⟨by show 0 ≤ _; exact Nat.zero_le _, fun p hp => ?_⟩
      have Fp : F p = none := sF.free hp
      have vw0 : ∀ {G : Hp} {x2 x3 x4 x5 x6 : Option V}, Same F G → Vw K G [some v1, some v2, x2, x3, x4, x5, x6] [some (lettD cs), some (endsD ends), none, none, none, none, none] := fun s => vw_some (d1.same s) (vw_some (d2.same s) (vw_none (vw_none (vw_none (vw_none (vw_none vw_nil))))))
      refine ⟨F, _, sF.trans (sm_upd hp), vw0 (.refl _), ?_⟩
      intro J F1 H1 g1 y
      have F1p : F1 p = none := by
        cases e : F1 p with
        | none => rfl
        | some o =>
          rcases g1.nw p o e with h | h
          · rw [Fp] at h; cases h
          · rw [upd_same] at h; cases h
      have hH1 : ∀ a o, H a = some o → H1 a = some o := fun a o h => g1.hh _ _ (by rw [upd_ne (ne_of_none h hp)]; exact h)
      let P : Nat → St → Hp → Prop := fun i σ Hc => ∃ R xs x3 x4, σ = [some v1, some v2, some (.ref p), x3, x4, none, none] ∧ Same F1 Hc ∧ Same H Hc ∧ Same R Hc ∧ (∀ a o, R a = some o → H a = none) ∧ R p = none ∧ Hc p = some (.lst xs) ∧ DtAll K R xs ((cs.take i).flatMap fun c => grB (grT cs N) c (belE c ends))
      refine for_by y P (fun i σ Hc h => ?_) ?_ (fun i d σ Hc hd h x F' H' g dx => ?_) fun σ Hc h => ?_
      · obtain ⟨_, _, _, _, _, h, _⟩ := h
        exact h
      · exact ⟨fun _ => none, [], _, _, rfl, g1.fh, hH1, (fun _ _ e => nomatch e), (fun _ _ e => nomatch e), rfl, g1.hh _ _ upd_same, .nil⟩
      · obtain ⟨R, xs, x3, x4, rfl, hF1, hH, hR, hRf, hRp, hp1, dxs⟩ := h
        rw [List.getElem?_map] at hd
        obtain ⟨c, hc, rfl⟩ := Option.map_eq_some_iff.mp hd
        have := dx.strE
        subst this
        have bc := bel_comp (c := c) (ends := ends) (fun e he => by have := hle e he; omega) e1000 (some (lettD cs)) none none
        have bl := belE_len (c := c) hle
        refine ⟨F', [some (lettD cs), some (endsD ends), none, some (.str (txt [c])), none, none, none], g.fh, vw_some (d1.same (g1.ff.trans g.ff)) (vw_some (d2.same (g1.ff.trans g.ff)) (vw_none (vw_some (.str _) (vw_none (vw_none (vw_none vw_nil)))))), ?_⟩
        show Po _ _ _ _ _ _ (eComp [5, 6] _ _ _ _ _) _
        rw [bc]
        intro v4 F2 H2 g2 d4
        have g12 := g.trans g2
        have bl4 : (belE c ends).length ≤ 1000 := by unfold belE; rw [List.length_map]; exact Nat.le_trans (List.length_filter_le _ _) e1000
        have ot := one_test (cs := cs) (c := c) bl4 (some (endsD ends))
        refine ⟨F2, [some (lettD cs), some (endsD ends), none, some (.str (txt [c])), some (endsD (belE c ends)), none, none], g12.fh, vw_some (d1.same (g1.ff.trans g12.ff)) (vw_some (d2.same (g1.ff.trans g12.ff)) (vw_none (vw_some (.str _) (vw_some d4 (vw_none (vw_none vw_nil)))))), ?_⟩
        rw [ot]
        intro b F3 H3 g3 hb
        cases hb
        have g13 := g12.trans g3
        have s5 := grT_step (N := N) (ends := ends) hc
        have push : ∀ (v : V) (dv : D) (R2 Hx : Hp) (q : Addr), Same F1 Hx → Same H Hx → Same R2 Hx → (∀ a o, R2 a = some o → H a = none) → R2 p = none → Hx p = some (.lst xs) → DtAll K R2 xs ((cs.take i).flatMap fun c => grB (grT cs N) c (belE c ends)) → Dt K R2 v dv → Hx q = none → grB (grT cs N) c (belE c ends) = [.tup [.str (txt [c]), dv]] →
            xs.length < sizeLine ∧ P (i + 1) [some v1, some v2, some (.ref p), some (.str (txt [c])), some v4, none, none] (upd (upd Hx q (.tup [.str (txt [c]), v])) p (.lst (xs ++ [.ref q]))) := by
          intro v dv R2 Hx q hF hH hR hRf hRp hpx dxs dv1 hq eg
          have qp : p ≠ q := ne_of_none hpx hq
          have Hq : H q = none := by
            cases e : H q with
            | none => rfl
            | some o => rw [hH _ _ e] at hq; cases hq
          have Rq : R2 q = none := hR.free hq
          have fl : ∀ l : List Nat, (l.flatMap fun c => grB (grT cs N) c (belE c ends)).length ≤ l.length := fun l => by
            induction l with
            | nil => exact Nat.le_refl _
            | cons a l ih =>
              rw [List.flatMap_cons, List.length_append, List.length_cons]
              have : (grB (grT cs N) a (belE a ends)).length ≤ 1 := by
                unfold grB
                split
                · exact Nat.zero_le _
                · exact Nat.le_refl _
                · exact Nat.le_refl _
              omega
          have lx := dxs.length
          have lf := fl (cs.take i)
          have lt := (List.take_sublist i cs).length_le
          refine ⟨?_, upd R2 q (.tup [.str (txt [c]), v]), xs ++ [.ref q], _, _, rfl, fun a o h => ?_, fun a o h => ?_, fun a o h => ?_, fun a o h => ?_, by rw [upd_ne qp]; exact hRp, upd_same, ?_⟩
          · have : 1000 < sizeLine := by decide
            omega
          · have ne : a ≠ p := fun z => by rw [z, F1p] at h; cases h
            rw [upd_ne ne, upd_ne (ne_of_none (hF _ _ h) hq)]
            exact hF _ _ h
          · rw [upd_ne (ne_of_none h hp), upd_ne (ne_of_none h Hq)]
            exact hH _ _ h
          · by_cases e : a = q
            · subst e
              rw [upd_same] at h
              cases h
              rw [upd_ne (Ne.symm qp), upd_same]
            · rw [upd_ne e] at h
              rw [upd_ne (fun z => by rw [z, hRp] at h; cases h), upd_ne e]
              exact hR _ _ h
          · by_cases e : a = q
            · rw [e]; exact Hq
            · rw [upd_ne e] at h
              exact hRf _ _ h
          · rw [s5, eg]
            exact (dxs.same (sm_upd Rq)).app (.cons (.tup upd_same (.cons (.str _) (.cons (dv1.same (sm_upd Rq)) .nil))) .nil)
        cases eo : isOne (belE c ends) with
        | true =>
          obtain ⟨n, en⟩ : ∃ n, belE c ends = [([], n)] := by
            match belE c ends, eo with
            | [([], n)], _ => exact ⟨n, rfl⟩
          rw [en] at d4 s5
          have hp3 : H3 p = some (.lst xs) := g13.hh _ _ hp1
          have i1 : eOp dIx (eOp dIx (eVar 4) (eC (.int 0))) (eC (.int 1)) [some (lettD cs), some (endsD ends), none, some (.str (txt [c])), some (endsD [([], n)]), none, none] = .ok (.int (n : Nat)) := by
            generalize lettD cs = lt
            simp
          refine iteT ⟨_, rfl, .inl ⟨rfl, _, SqL.of hp3⟩, ?_⟩
          refine ⟨_, rfl, F3, [some (lettD cs), some (endsD ends), none, some (.str (txt [c])), some (endsD [([], n)]), none, none], g13.fh, vw_some (d1.same (g1.ff.trans g13.ff)) (vw_some (d2.same (g1.ff.trans g13.ff)) (vw_none (vw_some (.str _) (vw_some (d4.same g3.ff) (vw_none (vw_none vw_nil)))))), ?_⟩
          rw [i1]
          intro v5 F4 H4 g4 d5
          have := d5.intE
          subst this
          have g14 := g13.trans g4
          have hp4 := g4.hh _ _ hp3
          refine ⟨by show 2 ≤ sizeLine; decide, fun q hq => ?_⟩
          have qp : p ≠ q := ne_of_none hp4 hq
          obtain ⟨k1, k2⟩ := push (.int (n : Nat)) (.int (n : Nat)) R H4 q (hF1.trans g14.hh) (hH.trans g14.hh) (hR.trans g14.hh) hRf hRp hp4 dxs (.int _) hq (by rw [en]; rfl)
          exact ⟨p, xs, .ref q, rfl, rfl, by rw [upd_ne qp]; exact hp4, k1, k2⟩
        | false =>
          refine iteF ?_
          have nt := ne_test (cs := cs) (c := c) (belE_asc (c := c) hasc) (some (endsD ends))
          refine ⟨F3, [some (lettD cs), some (endsD ends), none, some (.str (txt [c])), some (endsD (belE c ends)), none, none], g13.fh, vw_some (d1.same (g1.ff.trans g13.ff)) (vw_some (d2.same (g1.ff.trans g13.ff)) (vw_none (vw_some (.str _) (vw_some (d4.same g3.ff) (vw_none (vw_none vw_nil)))))), ?_⟩
          rw [nt]
          intro b F4 H4 g4 hb
          cases hb
          have g14 := g13.trans g4
          have hp4 : H4 p = some (.lst xs) := g14.hh _ _ hp1
          refine itb (fun e => ?_) fun e => ?_
          · have ne : belE c ends ≠ [] := of_decide_eq_true e
            refine ⟨_, rfl, .inl ⟨rfl, _, SqL.of hp4⟩, ?_⟩
            refine ⟨_, rfl, _, rfl, _, rfl, ?_⟩
            have n1 : 1 ≤ N := by
              obtain ⟨a, ha⟩ := List.exists_mem_of_ne_nil _ ne
              have := bl a ha
              omega
            refine ⟨_, _, F4, cs, belE c ends, rfl, g14.fh, d1.same (g1.ff.trans g14.ff), d4.same (g3.ff.trans g4.ff), c6, bl4, bl, n1, by omega, belE_asc hasc, fun v R1 H5 h5 r5 f5 dv => ?_⟩
            refine ⟨by show 2 ≤ sizeLine; decide, fun q hq => ?_⟩
            have hp5 := h5 _ _ hp4
            have qp : p ≠ q := ne_of_none hp5 hq
            have R1H : ∀ a o, R1 a = some o → H a = none := fun a o h => by
              cases e : H a with
              | none => rfl
              | some u =>
                have z := g14.hh _ _ (hH _ _ e)
                rw [f5 a o h] at z
                cases z
            have R1p : R1 p = none := by
              cases e : R1 p with
              | none => rfl
              | some u => rw [f5 p u e] at hp4; cases hp4
            have hR5 : Same R H5 := (hR.trans g14.hh).trans h5
            obtain ⟨k1, k2⟩ := push v (.lst (grT cs N (belE c ends))) (both R R1) H5 q ((hF1.trans g14.hh).trans h5) ((hH.trans g14.hh).trans h5) (both_in hR5 r5) (fun a o h => (both_cases h).elim (hRf a o) (R1H a o)) (both_none hRp R1p) hp5 (dxs.same both_l) (dv.same (both_r hR5 r5)) hq (by
              match belE c ends, ne, eo with
              | ([], n) :: a :: l, _, _ => rfl
              | (x :: y, n) :: l, _, _ => rfl)
            exact ⟨p, xs, .ref q, rfl, rfl, by rw [upd_ne qp]; exact hp5, k1, k2⟩
          · have e0 : belE c ends = [] := by
              have := of_decide_eq_false e
              exact Classical.not_not.mp this
            refine ⟨R, xs, _, _, rfl, hF1.trans g14.hh, hH.trans g14.hh, hR.trans g14.hh, hRf, hRp, hp4, ?_⟩
            rw [s5, e0]
            show DtAll K R xs (_ ++ [])
            rw [List.append_nil]
            exact dxs
      · obtain ⟨R, xs, x3, x4, rfl, hF1, hH, hR, hRf, hRp, hp1, dxs⟩ := h
        refine ⟨_, rfl, ?_⟩
        rw [List.take_of_length_le (by rw [List.length_map]; exact Nat.le_refl _)] at dxs
        refine Z (.ref p) (upd R p (.lst xs)) Hc hH (fun a o h => ?_) (fun a o h => ?_) (.lst upd_same (dxs.same (sm_upd hRp)))
        · by_cases e : a = p
          · subst e
            rw [upd_same] at h
            cases h
            exact hp1
          · rw [upd_ne e] at h
            exact hR _ _ h
        · by_cases e : a = p
          · rw [e]; exact hp
          · rw [upd_ne e] at h
            exact hRf _ _ h

theorem numbered_zip {α : Type} (f : α → D) : ∀ (l : List α) (k : Nat), numbered k (l.map f) = (l.zipIdx k).map fun e => .tup [.int (e.2 : Nat), f e.1]
  | [], _ => rfl
  | a :: l, k => by
    rw [List.map_cons, List.zipIdx_cons, List.map_cons, ← numbered_zip f l (k + 1)]
    rfl
def spTree (K : PySem.W.Frag) : Sp := fun vs H Q _ => ∃ (v1 v2 : V) (F : Hp) (U : Tg) (W : List (List Nat)), vs = [v1, v2] ∧ Same F H ∧ Dt K F v1 U.d ∧ Dt K F v2 (txs W) ∧ Good U ∧ W.length ≤ 1000 ∧ (∀ v ∈ W, v.length ≤ 8) ∧ (∀ v ∈ W, Asc v) ∧
  ∀ v R H', Same H H' → Same R H' → (∀ a o, R a = some o → H a = none) → Dt K R v (.lst (grT U.codes 9 W.zipIdx)) → Q v H'
theorem o_tree_of (T : Txt K mg) : OkF P w K mg base CX0 11 "tree_of" ["tongue", "book"] (spTree K) := by
  have ih := o_grown (P := P) (w := w) (base := base) T 9
  refine T.f_tree_of.ok c_tree_of (fun vs H Q E h => ?_) (fun f cdv A outer s H vs Q E hr h => ?_)
  · obtain ⟨_, _, _, _, _, rfl, _⟩ := h
    rfl
  · obtain ⟨v1, v2, F, U, W, rfl, sF, d1, d2, gd, hW, hle, hasc, Z⟩ := h
    refine ⟨_, (pss_cons (ps_expr (fe_call (ok_look_at_tongue T) hr (fa_cons (fe_var 0) fa_nil)))
      (pss_cons (ps_lcF (K := K) 2 [("one", 3)] c_tree_of.nd (fi_any (fe_ix (ix_A (K := K) (u1 hr.units)) opd_ix (fe_var 0) fe_int)) (fun _ _ _ _ _ => (fg_name 3 c_tree_of.nd)) (fun _ _ _ _ _ => fts_nil) (fun _ _ _ _ _ => (fe_ix (ix_A (K := K) (u1 hr.units)) opd_ix (fe_var 3) fe_int)) (blkOk_by (own := [("one", 3)]) (N := n_tree_of) (sc := defScope s_tree_of) (by decide +kernel)) (sw_true rfl rfl rfl (by decide +kernel)))
      (pss_one (ps_ret (pe_c ih hr (pa_cons (pv 2) (pa_cons (fe_comp (K := K) (xm := none) [("number", 4), ("word", 5)] c_tree_of.nd (fi_enum T.b_enumerate (fa_cons (fe_var 1) fa_nil) len1) (fun _ _ _ _ _ => (fg_tup (fgs_cons (fg_name 4 c_tree_of.nd) (fgs_cons (fg_name 5 c_tree_of.nd) fgs_nil)))) (fun _ _ _ _ _ => fts_nil) (fun _ _ _ _ _ => (fe_tup (fa_cons (fe_var 5) (fa_cons (fe_var 4) fa_nil)))) (blkOk_by (own := [("number", 4), ("word", 5)]) (N := n_tree_of) (sc := defScope s_tree_of) (by decide +kernel))) pa_nil))))))), ?_⟩
    have h6 := gd.hi
    have lk := look_e gd
    have vw : ∀ {G : Hp} {x2 x3 x4 x5 : Option V}, Same F G → Vw K G [some v1, some v2, x2, x3, x4, x5] [some U.d, some (txs W), none, none, none, none] := fun s => vw_some (d1.same s) (vw_some (d2.same s) (vw_none (vw_none (vw_none (vw_none vw_nil)))))
    refine ⟨F, _, sF, vw (.refl _), ?_⟩
    have c0 : eCall F_look_at_tongue (aCons (eVar 0) aNil) [some U.d, some (txs W), none, none, none, none] = .ok .non := by
      generalize txs W = wd
      generalize U.d = ud at *
      simp [lk]
    rw [c0]
    intro v0 F1 H1 g1 _
    have c1 : eComp [3] (iAny (eOp dIx (eVar 0) (eC (.int 0)))) (tgN 3) bYes (eOp dIx (eVar 3) (eC (.int 0))) [some U.d, some (txs W), none, none, none, none] = .ok (lettD U.codes) := by
      unfold lettD Tg.codes
      rw [List.map_map]
      refine eComp_all (F := rowD) _ (by
        have d0 : dIx U.d (.int 0) = .ok (.lst (U.signs.map rowD)) := by simp [Tg.d]
        have it : dItems (.lst (U.signs.map rowD)) = .ok (U.signs.map rowD) := rfl
        generalize txs W = wd
        generalize U.d = td at *
        generalize U.signs.map rowD = sr at *
        simp [d0, it]) (by omega) fun r hr => ⟨_, rfl, by simp, ?_⟩
      generalize txs W = wd
      generalize U.d = td
      simp [rowD]
    refine ⟨F1, _, g1.fh, vw g1.ff, ?_⟩
    show Po _ _ _ _ _ _ (eComp [3] _ _ _ _ _) _
    rw [c1]
    intro v3 F2 H2 g2 d3
    refine ⟨_, rfl, F2, [some U.d, some (txs W), none, none, none, none], g2.fh, vw (g1.ff.trans g2.ff), ?_⟩
    have c2 : eComp [4, 5] (iEnumD (aCons (eVar 1) aNil)) (tgT [(tgN 4), (tgN 5)]) bYes (eTup (aCons (eVar 5) (aCons (eVar 4) aNil))) [some U.d, some (txs W), none, none, none, none] = .ok (endsD W.zipIdx) := by
      refine eComp_all (F := fun e : List Nat × Nat => .tup [.int (e.2 : Nat), .str (txt e.1)]) _ (by
        rw [← numbered_zip (fun v => D.str (txt v)) W 0]
        rfl) (by rw [List.length_zipIdx]; omega) fun e he => ⟨[(4, .int (e.2 : Nat)), (5, .str (txt e.1))], rfl, by simp, ?_⟩
      generalize U.d = td
      generalize txs W = wd
      simp
    show Po _ _ _ _ _ _ (eComp [4, 5] _ _ _ _ _) _
    rw [c2]
    intro v4 F3 H3 g3 d4
    have g13 := (g1.trans g2).trans g3
    refine ⟨_, _, F3, U.codes, W.zipIdx, rfl, g3.fh, d3.same g3.ff, d4, by unfold Tg.codes; rw [List.length_map]; exact h6, by rw [List.length_zipIdx]; exact hW, fun e he => ?_, by decide, by decide, fun e he => ?_, fun v R H' h1 h2 h3 dv => ?_⟩
    · have := hle e.1 (List.fst_mem_of_mem_zipIdx (x := e) he)
      omega
    · exact hasc e.1 (List.fst_mem_of_mem_zipIdx (x := e) he)
    · refine Z v R H' (g13.hh.trans h1) h2 (fun a o h => ?_) dv
      cases e : H a with
      | none => rfl
      | some u =>
        have z := g13.hh _ _ e
        rw [h3 a o h] at z
        cases z
end
end Du

namespace Du
open PySem PySem.Spec PyProof.Rows L2 Dear
noncomputable def B__law_cell : Env → Out := (sSeq (sIf [] (bT (eOp dLt (eVar 1) (eCall dLen (aCons (eVar 0) aNil))))
(sRet [] (eOp dIx (eVar 0) (eVar 1)))
sPass)
(sRet [] (eC (.int 0))))
theorem B__law_cell_u (ρ : Env) : B__law_cell ρ = (sSeq (sIf [] (bT (eOp dLt (eVar 1) (eCall dLen (aCons (eVar 0) aNil))))
(sRet [] (eOp dIx (eVar 0) (eVar 1)))
sPass)
(sRet [] (eC (.int 0)))) ρ := rfl
noncomputable def F__law_cell : List D → Res D := runD (["_law_script", "_law_k"] : List Str).length n__law_cell.length B__law_cell
theorem ok__law_cell {P : Program} {w : World} {K : PySem.W.Frag} {mg : Str → Option Value} {base : Heap} (T : Txt K mg) : OkF P w K mg base CX0 (0 + 1) "_law_cell" ["_law_script", "_law_k"] (sp0 K F__law_cell) :=
  ok0 (g := B__law_cell) T.f__law_cell c__law_cell fun f cdv A outer s H E hr => 
(fss_cons (fs_if (L := []) (ft_cmp op_lt opd_lt gb_cmp (fe_var 1) (fe_callB (cr_len (K := K)) cd_len T.b_len (fa_cons (fe_var 0) fa_nil)))
(fss_one (fs_ret (L := []) (fe_ix (ix_A (K := K) (u1 hr.units)) opd_ix (fe_var 0) (fe_var 1))))
fss_nil)
(fss_one (fs_ret (L := []) fe_int)))

noncomputable def B__law_source : Env → Out := (sSeq (sAsg [] (eCall dAbs (aCons (eVar 0) aNil)) (tgN 2))
(sSeq (sAsg [] (eOp dMod (eOp dMul (eOp dAdd (eOp dAdd (eOp dMod (eVar 2) (eC (.int 1000003))) (eOp dMul (eC (.int 104729)) (eVar 1))) (eC (.int 7))) (eC (.int 48271))) (eC (.int 2147483647))) (tgN 3))
(sRetO [] (eLst (aCons (eOp dMul (eVar 2) (eCall dInt (aCons (eOp dGe (eVar 2) (eOp dPow (eC (.int 10)) (eC (.int 18)))) aNil))) (aCons (eVar 3) aNil))))))
theorem B__law_source_u (ρ : Env) : B__law_source ρ = (sSeq (sAsg [] (eCall dAbs (aCons (eVar 0) aNil)) (tgN 2))
(sSeq (sAsg [] (eOp dMod (eOp dMul (eOp dAdd (eOp dAdd (eOp dMod (eVar 2) (eC (.int 1000003))) (eOp dMul (eC (.int 104729)) (eVar 1))) (eC (.int 7))) (eC (.int 48271))) (eC (.int 2147483647))) (tgN 3))
(sRetO [] (eLst (aCons (eOp dMul (eVar 2) (eCall dInt (aCons (eOp dGe (eVar 2) (eOp dPow (eC (.int 10)) (eC (.int 18)))) aNil))) (aCons (eVar 3) aNil)))))) ρ := rfl
noncomputable def F__law_source : List D → Res D := runO (["_law_cell_here", "_law_k"] : List Str).length n__law_source.length B__law_source
theorem ok__law_source {P : Program} {w : World} {K : PySem.W.Frag} {mg : Str → Option Value} {base : Heap} (T : Txt K mg) : OkF P w K mg base CX0 (0 + 1) "_law_source" ["_law_cell_here", "_law_k"] (spO K F__law_source) :=
  okO (g := B__law_source) T.f__law_source c__law_source fun f cdv A outer s H E hr => 
(fss_cons (fs_asg (L := []) (fe_callB call_abs cd_abs T.b_abs (fa_cons (fe_var 0) fa_nil)) (fg_name 2 c__law_source.nd))
(fss_cons (fs_asg (L := []) (fe_op op_mod opd_mod (fe_op op_mulA opd_mul (fe_op (op_addA K) opd_add (fe_op (op_addA K) opd_add (fe_op op_mod opd_mod (fe_var 2) fe_int) (fe_op op_mulA opd_mul fe_int (fe_var 1))) fe_int) fe_int) fe_int) (fg_name 3 c__law_source.nd))
(fss_one (fs_retO (L := []) (fw_lst (fa_cons (fe_op op_mulA opd_mul (fe_var 2) (fe_callT call_int1 cd_int T.b_int (fa_cons (fe_cmp op_ge opd_ge (fe_var 2) (fe_op op_pow opd_pow fe_int fe_int)) fa_nil))) (fa_cons (fe_var 3) fa_nil)))))))

noncomputable def B__law_draw : Env → Out := (sSeq (sIf [0] (bT (eOp dGt (eOp dIx (eVar 0) (eC (.int 0))) (eC (.int 0))))
(sSeq (sAsg [0] (eOp dMod (eOp dIx (eVar 0) (eC (.int 0))) (eVar 1)) (tgN 2))
(sSeq (sPutL 0 [0] (eOp dDiv (eOp dIx (eVar 0) (eC (.int 0))) (eVar 1)) (eC (.int 0)))
(sRet [] (eVar 2))))
sPass)
(sSeq (sPutL 0 [0] (eOp dMod (eOp dAdd (eOp dMul (eOp dIx (eVar 0) (eC (.int 1))) (eC (.int 48271))) (eC (.int 11))) (eC (.int 2147483647))) (eC (.int 1)))
(sRet [0] (eOp dMod (eOp dDiv (eOp dMod (eOp dMul (eOp dIx (eVar 0) (eC (.int 1))) (eOp dIx (eVar 0) (eC (.int 1)))) (eC (.int 2147483629))) (eC (.int 64))) (eVar 1)))))
theorem B__law_draw_u (ρ : Env) : B__law_draw ρ = (sSeq (sIf [0] (bT (eOp dGt (eOp dIx (eVar 0) (eC (.int 0))) (eC (.int 0))))
(sSeq (sAsg [0] (eOp dMod (eOp dIx (eVar 0) (eC (.int 0))) (eVar 1)) (tgN 2))
(sSeq (sPutL 0 [0] (eOp dDiv (eOp dIx (eVar 0) (eC (.int 0))) (eVar 1)) (eC (.int 0)))
(sRet [] (eVar 2))))
sPass)
(sSeq (sPutL 0 [0] (eOp dMod (eOp dAdd (eOp dMul (eOp dIx (eVar 0) (eC (.int 1))) (eC (.int 48271))) (eC (.int 11))) (eC (.int 2147483647))) (eC (.int 1)))
(sRet [0] (eOp dMod (eOp dDiv (eOp dMod (eOp dMul (eOp dIx (eVar 0) (eC (.int 1))) (eOp dIx (eVar 0) (eC (.int 1)))) (eC (.int 2147483629))) (eC (.int 64))) (eVar 1))))) ρ := rfl
noncomputable def F__law_draw : List D → Res (D × D) := runIO (["_law_source_here", "_law_many"] : List Str).length n__law_draw.length 0 B__law_draw
theorem ok__law_draw {P : Program} {w : World} {K : PySem.W.Frag} {mg : Str → Option Value} {base : Heap} (T : Txt K mg) : OkF P w K mg base CX0 (0 + 1) "_law_draw" ["_law_source_here", "_law_many"] (spIO K 0 F__law_draw) :=
  okIO 0 (g := B__law_draw) T.f__law_draw c__law_draw fun f cdv A outer s H E hr => 
(fss_cons (fs_if (L := [0]) (ft_cmp op_gt opd_gt gb_cmp (fe_ix (ix_A (K := K) (u1 hr.units)) opd_ix (fe_var 0) fe_int) fe_int)
(fss_cons (fs_asg (L := [0]) (fe_op op_mod opd_mod (fe_ix (ix_A (K := K) (u1 hr.units)) opd_ix (fe_var 0) fe_int) (fe_var 1)) (fg_name 2 c__law_draw.nd))
(fss_cons (fs_putL (L := [0]) 0 (fe_op op_fdivW opd_div (fe_ix (ix_A (K := K) (u1 hr.units)) opd_ix (fe_var 0) fe_int) (fe_var 1)) fe_int)
(fss_one (fs_ret (L := []) (fe_var 2)))))
fss_nil)
(fss_cons (fs_putL (L := [0]) 0 (fe_op op_mod opd_mod (fe_op (op_addA K) opd_add (fe_op op_mulA opd_mul (fe_ix (ix_A (K := K) (u1 hr.units)) opd_ix (fe_var 0) fe_int) fe_int) fe_int) fe_int) fe_int)
(fss_one (fs_ret (L := [0]) (fe_op op_mod opd_mod (fe_op op_fdivW opd_div (fe_op op_mod opd_mod (fe_op op_mulA opd_mul (fe_ix (ix_A (K := K) (u1 hr.units)) opd_ix (fe_var 0) fe_int) (fe_ix (ix_A (K := K) (u1 hr.units)) opd_ix (fe_var 0) fe_int)) fe_int) fe_int) (fe_var 1))))))

noncomputable def B__law_lowest_1 : Env → Out := (sPar 2 3 [] (aCons (eVar 3) (aCons (eOp dMod (eVar 2) (eVar 3)) aNil)))
theorem B__law_lowest_1_u (ρ : Env) : B__law_lowest_1 ρ = (sPar 2 3 [] (aCons (eVar 3) (aCons (eOp dMod (eVar 2) (eVar 3)) aNil))) ρ := rfl
noncomputable def B__law_lowest : Env → Out := (sSeq (sAsg [] (eVar 1) (tgN 2))
(sSeq (sAsg [] (eCall dAbs (aCons (eVar 0) aNil)) (tgN 3))
(sSeq (sWhile [] (bT (eOp dGt (eVar 3) (eC (.int 0))))
B__law_lowest_1)
(sRet [] (eTup (aCons (eOp dDiv (eVar 0) (eVar 2)) (aCons (eOp dDiv (eVar 1) (eVar 2)) aNil)))))))
theorem B__law_lowest_u (ρ : Env) : B__law_lowest ρ = (sSeq (sAsg [] (eVar 1) (tgN 2))
(sSeq (sAsg [] (eCall dAbs (aCons (eVar 0) aNil)) (tgN 3))
(sSeq (sWhile [] (bT (eOp dGt (eVar 3) (eC (.int 0))))
B__law_lowest_1)
(sRet [] (eTup (aCons (eOp dDiv (eVar 0) (eVar 2)) (aCons (eOp dDiv (eVar 1) (eVar 2)) aNil))))))) ρ := rfl
noncomputable def F__law_lowest : List D → Res D := runD (["_law_top", "_law_bottom"] : List Str).length n__law_lowest.length B__law_lowest
theorem ok__law_lowest {P : Program} {w : World} {K : PySem.W.Frag} {mg : Str → Option Value} {base : Heap} (T : Txt K mg) : OkF P w K mg base CX0 (0 + 1) "_law_lowest" ["_law_top", "_law_bottom"] (sp0 K F__law_lowest) :=
  ok0 (g := B__law_lowest) T.f__law_lowest c__law_lowest fun f cdv A outer s H E hr => 
(fss_cons (fs_asg (L := []) (fe_var 1) (fg_name 2 c__law_lowest.nd))
(fss_cons (fs_asg (L := []) (fe_callB call_abs cd_abs T.b_abs (fa_cons (fe_var 0) fa_nil)) (fg_name 3 c__law_lowest.nd))
(fss_cons (fs_while (L := []) PassesOwn.never (ft_cmp op_gt opd_gt gb_cmp (fe_var 3) fe_int)
(fss_one (fs_par (L := []) 2 3 c__law_lowest.nd (fa_cons (fe_var 3) (fa_cons (fe_op op_mod opd_mod (fe_var 2) (fe_var 3)) fa_nil)))))
(fss_one (fs_ret (L := []) (fe_tup (fa_cons (fe_op op_fdivW opd_div (fe_var 0) (fe_var 2)) (fa_cons (fe_op op_fdivW opd_div (fe_var 1) (fe_var 2)) fa_nil))))))))

noncomputable def B__law_price : Env → Out := (sSeq (sAsgM (mIO 0 0 F__law_draw (mAP [] (aCons (eC (.int 5)) aNil))) (tgN 1))
(sSeq (sAsg [] (eOp dIx (eLst (aCons (eC (.int 5)) (aCons (eC (.int 5)) (aCons (eC (.int 9)) (aCons (eC (.int 9)) (aCons (eOp dMul (eC (.int 9)) (eOp dPow (eC (.int 10)) (eC (.int 8)))) aNil)))))) (eVar 1)) (tgN 2))
(sSeq (sAsgM (mOp dAdd (mP [] (eC (.int 1))) (mIO 0 0 F__law_draw (mAP [] (aCons (eVar 2) aNil)))) (tgN 3))
(sSeq (sIf [] (bT (eOp dLt (eVar 1) (eC (.int 2))))
(sRet [] (eTup (aCons (eVar 3) (aCons (eC (.int 1)) aNil))))
sPass)
(sRetM (mApp F__law_lowest (mCons (mP [] (eVar 3)) (mCons (mOp dAdd (mP [] (eC (.int 1))) (mIO 0 0 F__law_draw (mAP [] (aCons (eVar 2) aNil)))) mNil))))))))
theorem B__law_price_u (ρ : Env) : B__law_price ρ = (sSeq (sAsgM (mIO 0 0 F__law_draw (mAP [] (aCons (eC (.int 5)) aNil))) (tgN 1))
(sSeq (sAsg [] (eOp dIx (eLst (aCons (eC (.int 5)) (aCons (eC (.int 5)) (aCons (eC (.int 9)) (aCons (eC (.int 9)) (aCons (eOp dMul (eC (.int 9)) (eOp dPow (eC (.int 10)) (eC (.int 8)))) aNil)))))) (eVar 1)) (tgN 2))
(sSeq (sAsgM (mOp dAdd (mP [] (eC (.int 1))) (mIO 0 0 F__law_draw (mAP [] (aCons (eVar 2) aNil)))) (tgN 3))
(sSeq (sIf [] (bT (eOp dLt (eVar 1) (eC (.int 2))))
(sRet [] (eTup (aCons (eVar 3) (aCons (eC (.int 1)) aNil))))
sPass)
(sRetM (mApp F__law_lowest (mCons (mP [] (eVar 3)) (mCons (mOp dAdd (mP [] (eC (.int 1))) (mIO 0 0 F__law_draw (mAP [] (aCons (eVar 2) aNil)))) mNil)))))))) ρ := rfl
noncomputable def F__law_price : List D → Res (D × D) := runIO (["_law_source_here"] : List Str).length n__law_price.length 0 B__law_price
theorem ok__law_price {P : Program} {w : World} {K : PySem.W.Frag} {mg : Str → Option Value} {base : Heap} (T : Txt K mg) : OkF P w K mg base CX0 (1 + 1) "_law_price" ["_law_source_here"] (spIO K 0 F__law_price) :=
  okIO 0 (g := B__law_price) T.f__law_price c__law_price fun f cdv A outer s H E hr => 
(fss_cons (fs_asgM (me_io (ok__law_draw T) hr (mio_here 0 (ma_p (L := []) (fa_cons fe_int fa_nil)))) (fg_name 1 c__law_price.nd))
(fss_cons (fs_asg (L := []) (fe_ix (ix_A (K := K) (u1 hr.units)) opd_ix (fe_lst (fa_cons fe_int (fa_cons fe_int (fa_cons fe_int (fa_cons fe_int (fa_cons (fe_op op_mulA opd_mul fe_int (fe_op op_pow opd_pow fe_int fe_int)) fa_nil)))))) (fe_var 1)) (fg_name 2 c__law_price.nd))
(fss_cons (fs_asgM (me_op (op_addA K) opd_add (me_p (L := []) fe_int) (me_io (ok__law_draw T) hr (mio_here 0 (ma_p (L := []) (fa_cons (fe_var 2) fa_nil))))) (fg_name 3 c__law_price.nd))
(fss_cons (fs_if (L := []) (ft_cmp op_lt opd_lt gb_cmp (fe_var 1) fe_int)
(fss_one (fs_ret (L := []) (fe_tup (fa_cons (fe_var 3) (fa_cons fe_int fa_nil)))))
fss_nil)
(fss_one (fs_retM (me_call (ok__law_lowest T) hr (ma_cons (me_p (L := []) (fe_var 3)) (ma_cons (me_op (op_addA K) opd_add (me_p (L := []) fe_int) (me_io (ok__law_draw T) hr (mio_here 0 (ma_p (L := []) (fa_cons (fe_var 2) fa_nil))))) ma_nil)))))))))

noncomputable def B__law_signs_1 : Env → Out := (sSeq (sAsgM (mIO 0 0 F__law_price (mAP [] aNil)) (tgN 7))
(sSeq (sIfM (mAnd (mB [] (bT (eOp dGt (eVar 6) (eC (.int 0))))) (mTest (mOp dEq (mIO 0 0 F__law_draw (mAP [] (aCons (eC (.int 4)) aNil))) (mP [] (eC (.int 0))))))
(sAsg [5] (eOp dIx (eOp dIx (eVar 5) (eOp dSub (eVar 6) (eC (.int 1)))) (eC (.int 1))) (tgN 7))
sPass)
(sSeq (sAsg [] (eVar 7) (tgN 8))
(sSeq (sAsgM (mIO 0 0 F__law_draw (mAP [] (aCons (eC (.int 6)) aNil))) (tgN 9))
(sSeq (sIf [] (bT (eOp dEq (eVar 9) (eC (.int 0))))
(sAsg [] (eC .non) (tgN 8))
(sIf [] (bT (eOp dGt (eVar 9) (eC (.int 1))))
(sAsgM (mIO 0 0 F__law_price (mAP [] aNil)) (tgN 8))
sPass))
(need 5 (sApp 5 [] (eTup (aCons (eOp dIx (eVar 2) (eOp dMod (eOp dAdd (eVar 3) (eOp dMul (eVar 4) (eVar 6))) (eC (.int 26)))) (aCons (eVar 7) (aCons (eVar 8) aNil)))))))))))
theorem B__law_signs_1_u (ρ : Env) : B__law_signs_1 ρ = (sSeq (sAsgM (mIO 0 0 F__law_price (mAP [] aNil)) (tgN 7))
(sSeq (sIfM (mAnd (mB [] (bT (eOp dGt (eVar 6) (eC (.int 0))))) (mTest (mOp dEq (mIO 0 0 F__law_draw (mAP [] (aCons (eC (.int 4)) aNil))) (mP [] (eC (.int 0))))))
(sAsg [5] (eOp dIx (eOp dIx (eVar 5) (eOp dSub (eVar 6) (eC (.int 1)))) (eC (.int 1))) (tgN 7))
sPass)
(sSeq (sAsg [] (eVar 7) (tgN 8))
(sSeq (sAsgM (mIO 0 0 F__law_draw (mAP [] (aCons (eC (.int 6)) aNil))) (tgN 9))
(sSeq (sIf [] (bT (eOp dEq (eVar 9) (eC (.int 0))))
(sAsg [] (eC .non) (tgN 8))
(sIf [] (bT (eOp dGt (eVar 9) (eC (.int 1))))
(sAsgM (mIO 0 0 F__law_price (mAP [] aNil)) (tgN 8))
sPass))
(need 5 (sApp 5 [] (eTup (aCons (eOp dIx (eVar 2) (eOp dMod (eOp dAdd (eVar 3) (eOp dMul (eVar 4) (eVar 6))) (eC (.int 26)))) (aCons (eVar 7) (aCons (eVar 8) aNil))))))))))) ρ := rfl
noncomputable def B__law_signs : Env → Out := (sSeq (sAsg [] (eC (.str "abcdefghijklmnopqrstuvwxyz")) (tgN 2))
(sSeq (sAsgM (mIO 0 0 F__law_draw (mAP [] (aCons (eC (.int 26)) aNil))) (tgN 3))
(sSeq (sAsgM (mOp dIx (mP [] (eLst (aCons (eC (.int 1)) (aCons (eC (.int 3)) (aCons (eC (.int 7)) (aCons (eC (.int 25)) aNil)))))) (mIO 0 0 F__law_draw (mAP [] (aCons (eC (.int 4)) aNil)))) (tgN 4))
(sSeq (sOwn 5 [] (eLst aNil))
(sSeq (sFor [] (iRange (aCons (eVar 1) aNil)) (tgN 6)
B__law_signs_1
[6, 7, 8, 9])
(sRet [5] (eVar 5)))))))
theorem B__law_signs_u (ρ : Env) : B__law_signs ρ = (sSeq (sAsg [] (eC (.str "abcdefghijklmnopqrstuvwxyz")) (tgN 2))
(sSeq (sAsgM (mIO 0 0 F__law_draw (mAP [] (aCons (eC (.int 26)) aNil))) (tgN 3))
(sSeq (sAsgM (mOp dIx (mP [] (eLst (aCons (eC (.int 1)) (aCons (eC (.int 3)) (aCons (eC (.int 7)) (aCons (eC (.int 25)) aNil)))))) (mIO 0 0 F__law_draw (mAP [] (aCons (eC (.int 4)) aNil)))) (tgN 4))
(sSeq (sOwn 5 [] (eLst aNil))
(sSeq (sFor [] (iRange (aCons (eVar 1) aNil)) (tgN 6)
B__law_signs_1
[6, 7, 8, 9])
(sRet [5] (eVar 5))))))) ρ := rfl
noncomputable def F__law_signs : List D → Res (D × D) := runIO (["_law_source_here", "_law_many"] : List Str).length n__law_signs.length 0 B__law_signs
theorem ok__law_signs {P : Program} {w : World} {K : PySem.W.Frag} {mg : Str → Option Value} {base : Heap} (T : Txt K mg) : OkF P w K mg base CX0 (2 + 1) "_law_signs" ["_law_source_here", "_law_many"] (spIO K 0 F__law_signs) :=
  okIO 0 (g := B__law_signs) T.f__law_signs c__law_signs fun f cdv A outer s H E hr => 
(fss_cons (fs_asg (L := []) fe_str (fg_name 2 c__law_signs.nd))
(fss_cons (fs_asgM (me_io (ok__law_draw T) hr (mio_here 0 (ma_p (L := []) (fa_cons fe_int fa_nil)))) (fg_name 3 c__law_signs.nd))
(fss_cons (fs_asgM (me_ix (ix_A (K := K) (u1 hr.units)) opd_ix (me_p (L := []) (fe_lst (fa_cons fe_int (fa_cons fe_int (fa_cons fe_int (fa_cons fe_int fa_nil)))))) (me_io (ok__law_draw T) hr (mio_here 0 (ma_p (L := []) (fa_cons fe_int fa_nil))))) (fg_name 4 c__law_signs.nd))
(fss_cons (fs_own (L := []) 5 (fw_lst fa_nil) c__law_signs.nd)
(fss_cons (fs_for (L := []) [6, 7, 8, 9] PassesOwn.never (fi_range1 T.b_range (fa_cons (fe_var 1) fa_nil) (h1 := len1)) (fg_name 6 c__law_signs.nd)
(fss_cons (fs_asgM (me_io (ok__law_price T) hr (mio_here 0 (ma_p (L := []) fa_nil))) (fg_name 7 c__law_signs.nd))
(fss_cons (fs_ifM (mt_w (mw_and (mt_p (L := []) (ft_cmp op_gt opd_gt gb_cmp (fe_var 6) fe_int)) (mw_and1 (mt_cmp (op_eqA (K := K) hr.units) opd_eq (me_io (ok__law_draw T) hr (mio_here 0 (ma_p (L := []) (fa_cons fe_int fa_nil)))) (me_p (L := []) fe_int)))))
(fss_one (fs_asg (L := [5]) (fe_ix (ix_A (K := K) (u1 hr.units)) opd_ix (fe_ix (ix_A (K := K) (u1 hr.units)) opd_ix (fe_var 5) (fe_op op_sub opd_sub (fe_var 6) fe_int)) fe_int) (fg_name 7 c__law_signs.nd)))
fss_nil)
(fss_cons (fs_asg (L := []) (fe_var 7) (fg_name 8 c__law_signs.nd))
(fss_cons (fs_asgM (me_io (ok__law_draw T) hr (mio_here 0 (ma_p (L := []) (fa_cons fe_int fa_nil)))) (fg_name 9 c__law_signs.nd))
(fss_cons (fs_if (L := []) (ft_cmp (op_eqA (K := K) hr.units) opd_eq gb_eq (fe_var 9) fe_int)
(fss_one (fs_asg (L := []) fe_non (fg_name 8 c__law_signs.nd)))
(fss_one (fs_if (L := []) (ft_cmp op_gt opd_gt gb_cmp (fe_var 9) fe_int)
(fss_one (fs_asgM (me_io (ok__law_price T) hr (mio_here 0 (ma_p (L := []) fa_nil))) (fg_name 8 c__law_signs.nd)))
fss_nil)))
(fss_one (fs_app (L := []) 5 (fe_tup (fa_cons (fe_ix (ix_A (K := K) (u1 hr.units)) opd_ix (fe_var 2) (fe_op op_mod opd_mod (fe_op (op_addA K) opd_add (fe_var 3) (fe_op op_mulA opd_mul (fe_var 4) (fe_var 6))) fe_int)) (fa_cons (fe_var 7) (fa_cons (fe_var 8) fa_nil))))))))))))
(fss_one (fs_ret (L := [5]) (fe_var 5))))))))

noncomputable def B__law_tongue_1 : Env → Out := (need 11 (sExtM 11 (mComp [14] [7] (iAny (eVar 7)) (tgN 14) (mTest (mOp dEq (mIO 0 4 F__law_draw (mAP [] (aCons (eVar 9) aNil))) (mP [] (eC (.int 0))))) (mP [] (eOp dAdd (eVar 12) (eVar 14))))))
theorem B__law_tongue_1_u (ρ : Env) : B__law_tongue_1 ρ = (need 11 (sExtM 11 (mComp [14] [7] (iAny (eVar 7)) (tgN 14) (mTest (mOp dEq (mIO 0 4 F__law_draw (mAP [] (aCons (eVar 9) aNil))) (mP [] (eC (.int 0))))) (mP [] (eOp dAdd (eVar 12) (eVar 14)))))) ρ := rfl
noncomputable def B__law_tongue : Env → Out := (sSeq (sOwn 4 [] (eCall F__law_source (aCons (eCall F__law_cell (aCons (eVar 0) (aCons (eVar 1) aNil))) (aCons (eVar 1) aNil))))
(sSeq (sAsgM (mOp dAdd (mP [] (eC (.int 2))) (mIO 0 4 F__law_draw (mAP [] (aCons (eOp dSub (eVar 2) (eC (.int 1))) aNil)))) (tgN 5))
(sSeq (sAsgM (mIO 0 4 F__law_signs (mAP [] (aCons (eVar 5) aNil))) (tgN 6))
(sSeq (sOwn 7 [] (eComp [12] (iAny (eVar 6)) (tgN 12) bYes (eOp dIx (eVar 12) (eC (.int 0)))))
(sSeq (sOwn 4 [] (eCall F__law_source (aCons (eCall F__law_cell (aCons (eVar 0) (aCons (eOp dAdd (eVar 1) (eC (.int 1))) aNil))) (aCons (eOp dAdd (eVar 1) (eC (.int 1))) aNil))))
(sSeq (sAsgM (mOp dAdd (mP [] (eC (.int 1))) (mIO 0 4 F__law_draw (mAP [] (aCons (eOp dIx (eVar 3) (eOp dSub (eVar 5) (eC (.int 2)))) aNil)))) (tgN 8))
(sSeq (sAsgM (mOp dIx (mP [] (eLst (aCons (eC (.int 2)) (aCons (eC (.int 5)) (aCons (eC (.int 9)) (aCons (eC (.int 36)) aNil)))))) (mIO 0 4 F__law_draw (mAP [] (aCons (eC (.int 4)) aNil)))) (tgN 9))
(sSeq (sOwnM 10 (mComp [13] [7] (iAny (eVar 7)) (tgN 13) (mTest (mOp dEq (mIO 0 4 F__law_draw (mAP [] (aCons (eC (.int 5)) aNil))) (mP [] (eC (.int 0))))) (mP [] (eVar 13))))
(sSeq (sOwn 11 [] (eLst aNil))
(sSeq (sFor [7] (iAny (eVar 7)) (tgN 12)
B__law_tongue_1
[12, 14])
(sSeq (sIfM (mTest (mOp dEq (mIO 0 4 F__law_draw (mAP [] (aCons (eC (.int 2)) aNil))) (mP [] (eC (.int 1)))))
(sSeq (sOwn 10 [10] (eUn dRev (eVar 10)))
(sOwn 11 [11] (eUn dRev (eVar 11))))
sPass)
(sRet [10, 11] (eTup (aCons (eVar 6) (aCons (eVar 10) (aCons (eVar 11) (aCons (eVar 8) aNil)))))))))))))))))
theorem B__law_tongue_u (ρ : Env) : B__law_tongue ρ = (sSeq (sOwn 4 [] (eCall F__law_source (aCons (eCall F__law_cell (aCons (eVar 0) (aCons (eVar 1) aNil))) (aCons (eVar 1) aNil))))
(sSeq (sAsgM (mOp dAdd (mP [] (eC (.int 2))) (mIO 0 4 F__law_draw (mAP [] (aCons (eOp dSub (eVar 2) (eC (.int 1))) aNil)))) (tgN 5))
(sSeq (sAsgM (mIO 0 4 F__law_signs (mAP [] (aCons (eVar 5) aNil))) (tgN 6))
(sSeq (sOwn 7 [] (eComp [12] (iAny (eVar 6)) (tgN 12) bYes (eOp dIx (eVar 12) (eC (.int 0)))))
(sSeq (sOwn 4 [] (eCall F__law_source (aCons (eCall F__law_cell (aCons (eVar 0) (aCons (eOp dAdd (eVar 1) (eC (.int 1))) aNil))) (aCons (eOp dAdd (eVar 1) (eC (.int 1))) aNil))))
(sSeq (sAsgM (mOp dAdd (mP [] (eC (.int 1))) (mIO 0 4 F__law_draw (mAP [] (aCons (eOp dIx (eVar 3) (eOp dSub (eVar 5) (eC (.int 2)))) aNil)))) (tgN 8))
(sSeq (sAsgM (mOp dIx (mP [] (eLst (aCons (eC (.int 2)) (aCons (eC (.int 5)) (aCons (eC (.int 9)) (aCons (eC (.int 36)) aNil)))))) (mIO 0 4 F__law_draw (mAP [] (aCons (eC (.int 4)) aNil)))) (tgN 9))
(sSeq (sOwnM 10 (mComp [13] [7] (iAny (eVar 7)) (tgN 13) (mTest (mOp dEq (mIO 0 4 F__law_draw (mAP [] (aCons (eC (.int 5)) aNil))) (mP [] (eC (.int 0))))) (mP [] (eVar 13))))
(sSeq (sOwn 11 [] (eLst aNil))
(sSeq (sFor [7] (iAny (eVar 7)) (tgN 12)
B__law_tongue_1
[12, 14])
(sSeq (sIfM (mTest (mOp dEq (mIO 0 4 F__law_draw (mAP [] (aCons (eC (.int 2)) aNil))) (mP [] (eC (.int 1)))))
(sSeq (sOwn 10 [10] (eUn dRev (eVar 10)))
(sOwn 11 [11] (eUn dRev (eVar 11))))
sPass)
(sRet [10, 11] (eTup (aCons (eVar 6) (aCons (eVar 10) (aCons (eVar 11) (aCons (eVar 8) aNil))))))))))))))))) ρ := rfl
noncomputable def F__law_tongue : List D → Res D := runD (["_law_script", "_law_base", "_law_most", "_law_longs"] : List Str).length n__law_tongue.length B__law_tongue
theorem ok__law_tongue {P : Program} {w : World} {K : PySem.W.Frag} {mg : Str → Option Value} {base : Heap} (T : Txt K mg) : OkF P w K mg base CX0 (3 + 1) "_law_tongue" ["_law_script", "_law_base", "_law_most", "_law_longs"] (sp0 K F__law_tongue) :=
  ok0 (g := B__law_tongue) T.f__law_tongue c__law_tongue fun f cdv A outer s H E hr => 
(fss_cons (fs_own (L := []) 4 (fw_call (ok__law_source T) hr (fa_cons (fe_call (ok__law_cell T) hr (fa_cons (fe_var 0) (fa_cons (fe_var 1) fa_nil))) (fa_cons (fe_var 1) fa_nil))) c__law_tongue.nd)
(fss_cons (fs_asgM (me_op (op_addA K) opd_add (me_p (L := []) fe_int) (me_io (ok__law_draw T) hr (mio_here 4 (ma_p (L := []) (fa_cons (fe_op op_sub opd_sub (fe_var 2) fe_int) fa_nil))))) (fg_name 5 c__law_tongue.nd))
(fss_cons (fs_asgM (me_io (ok__law_signs T) hr (mio_here 4 (ma_p (L := []) (fa_cons (fe_var 5) fa_nil)))) (fg_name 6 c__law_tongue.nd))
(fss_cons (fs_ownLc (L := []) 7 [("_law_one", 12)] c__law_tongue.nd (fi_any (fe_var 6)) (fun _ _ _ _ _ => (fg_name 12 c__law_tongue.nd)) (fun _ _ _ _ _ => fts_nil) (fun _ _ _ _ _ => (fe_ix (ix_A (K := K) (u1 hr.units)) opd_ix (fe_var 12) fe_int)) (blkOk_by (own := [("_law_one", 12)]) (N := n__law_tongue) (sc := defScope s__law_tongue) (by decide +kernel)) (sw_true rfl rfl rfl (by decide +kernel)))
(fss_cons (fs_own (L := []) 4 (fw_call (ok__law_source T) hr (fa_cons (fe_call (ok__law_cell T) hr (fa_cons (fe_var 0) (fa_cons (fe_op (op_addA K) opd_add (fe_var 1) fe_int) fa_nil))) (fa_cons (fe_op (op_addA K) opd_add (fe_var 1) fe_int) fa_nil))) c__law_tongue.nd)
(fss_cons (fs_asgM (me_op (op_addA K) opd_add (me_p (L := []) fe_int) (me_io (ok__law_draw T) hr (mio_here 4 (ma_p (L := []) (fa_cons (fe_ix (ix_A (K := K) (u1 hr.units)) opd_ix (fe_var 3) (fe_op op_sub opd_sub (fe_var 5) fe_int)) fa_nil))))) (fg_name 8 c__law_tongue.nd))
(fss_cons (fs_asgM (me_ix (ix_A (K := K) (u1 hr.units)) opd_ix (me_p (L := []) (fe_lst (fa_cons fe_int (fa_cons fe_int (fa_cons fe_int (fa_cons fe_int fa_nil)))))) (me_io (ok__law_draw T) hr (mio_here 4 (ma_p (L := []) (fa_cons fe_int fa_nil))))) (fg_name 9 c__law_tongue.nd))
(fss_cons (fs_ownLcM 10 [("_law_sign", 13)] (L := [7]) c__law_tongue.nd (fi_any (fe_var 7)) (fun _ _ _ _ _ => (fg_name 13 c__law_tongue.nd)) (fun _ _ _ _ _ => (mts_one (mt_cmp (op_eqA (K := K) hr.units) opd_eq (me_io (ok__law_draw T) hr (mio_here 4 (ma_p (L := []) (fa_cons fe_int fa_nil)))) (me_p (L := []) fe_int)))) (fun _ _ _ _ _ => (me_p (L := []) (fe_var 13))) (blkOk_by (own := [("_law_sign", 13)]) (N := n__law_tongue) (sc := defScope s__law_tongue) (by decide +kernel)) (sw_true rfl rfl rfl (by decide +kernel)))
(fss_cons (fs_own (L := []) 11 (fw_lst fa_nil) c__law_tongue.nd)
(fss_cons (fs_for (L := [7]) [12, 14] PassesOwn.never (fi_any (fe_var 7)) (fg_name 12 c__law_tongue.nd)
(fss_one (fs_extM 11 (me_comp [("_law_other", 14)] (L := [7]) c__law_tongue.nd (fi_any (fe_var 7)) (fun _ _ _ _ _ => (fg_name 14 c__law_tongue.nd)) (fun _ _ _ _ _ => (mts_one (mt_cmp (op_eqA (K := K) hr.units) opd_eq (me_io (ok__law_draw T) hr (mio_here 4 (ma_p (L := []) (fa_cons (fe_var 9) fa_nil)))) (me_p (L := []) fe_int)))) (fun _ _ _ _ _ => (me_p (L := []) (fe_op (op_addA K) opd_add (fe_var 12) (fe_var 14)))) (blkOk_by (own := [("_law_other", 14)]) (N := n__law_tongue) (sc := defScope s__law_tongue) (by decide +kernel))))))
(fss_cons (fs_ifM (mt_cmp (op_eqA (K := K) hr.units) opd_eq (me_io (ok__law_draw T) hr (mio_here 4 (ma_p (L := []) (fa_cons fe_int fa_nil)))) (me_p (L := []) fe_int))
(fss_cons (fs_own (L := [10]) 10 (fw_rev (fe_var 10)) c__law_tongue.nd)
(fss_one (fs_own (L := [11]) 11 (fw_rev (fe_var 11)) c__law_tongue.nd)))
fss_nil)
(fss_one (fs_ret (L := [10, 11]) (fe_tup (fa_cons (fe_var 6) (fa_cons (fe_var 10) (fa_cons (fe_var 11) (fa_cons (fe_var 8) fa_nil))))))))))))))))))

noncomputable def B__law_copy : Env → Out := (sRet [] (eTup (aCons (eCall dList (aCons (eOp dIx (eVar 0) (eC (.int 0))) aNil)) (aCons (eCall dList (aCons (eOp dIx (eVar 0) (eC (.int 1))) aNil)) (aCons (eCall dList (aCons (eOp dIx (eVar 0) (eC (.int 2))) aNil)) (aCons (eOp dIx (eVar 0) (eC (.int 3))) aNil))))))
theorem B__law_copy_u (ρ : Env) : B__law_copy ρ = (sRet [] (eTup (aCons (eCall dList (aCons (eOp dIx (eVar 0) (eC (.int 0))) aNil)) (aCons (eCall dList (aCons (eOp dIx (eVar 0) (eC (.int 1))) aNil)) (aCons (eCall dList (aCons (eOp dIx (eVar 0) (eC (.int 2))) aNil)) (aCons (eOp dIx (eVar 0) (eC (.int 3))) aNil)))))) ρ := rfl
noncomputable def F__law_copy : List D → Res D := runD (["_law_tongue_here"] : List Str).length n__law_copy.length B__law_copy
theorem ok__law_copy {P : Program} {w : World} {K : PySem.W.Frag} {mg : Str → Option Value} {base : Heap} (T : Txt K mg) : OkF P w K mg base CX0 (0 + 1) "_law_copy" ["_law_tongue_here"] (sp0 K F__law_copy) :=
  ok0 (g := B__law_copy) T.f__law_copy c__law_copy fun f cdv A outer s H E hr => 
(fss_one (fs_ret (L := []) (fe_tup (fa_cons (fe_callT (call_list_of_k K) cd_list T.b_list (fa_cons (fe_ix (ix_A (K := K) (u1 hr.units)) opd_ix (fe_var 0) fe_int) fa_nil)) (fa_cons (fe_callT (call_list_of_k K) cd_list T.b_list (fa_cons (fe_ix (ix_A (K := K) (u1 hr.units)) opd_ix (fe_var 0) fe_int) fa_nil)) (fa_cons (fe_callT (call_list_of_k K) cd_list T.b_list (fa_cons (fe_ix (ix_A (K := K) (u1 hr.units)) opd_ix (fe_var 0) fe_int) fa_nil)) (fa_cons (fe_ix (ix_A (K := K) (u1 hr.units)) opd_ix (fe_var 0) fe_int) fa_nil)))))))

noncomputable def B__law_comes : Env → Out := (sSeq (sIf [] (bT (eOp dEq (eVar 1) (eC (.str ""))))
(sRet [] (eOp (dIn true) (eVar 2) (eOp dIx (eVar 0) (eC (.int 1)))))
sPass)
(sRet [] (eOp (dIn true) (eOp dAdd (eVar 1) (eVar 2)) (eOp dIx (eVar 0) (eC (.int 2))))))
theorem B__law_comes_u (ρ : Env) : B__law_comes ρ = (sSeq (sIf [] (bT (eOp dEq (eVar 1) (eC (.str ""))))
(sRet [] (eOp (dIn true) (eVar 2) (eOp dIx (eVar 0) (eC (.int 1)))))
sPass)
(sRet [] (eOp (dIn true) (eOp dAdd (eVar 1) (eVar 2)) (eOp dIx (eVar 0) (eC (.int 2)))))) ρ := rfl
noncomputable def F__law_comes : List D → Res D := runD (["_law_tongue_here", "_law_ahead", "_law_sign"] : List Str).length n__law_comes.length B__law_comes
theorem ok__law_comes {P : Program} {w : World} {K : PySem.W.Frag} {mg : Str → Option Value} {base : Heap} (T : Txt K mg) : OkF P w K mg base CX0 (0 + 1) "_law_comes" ["_law_tongue_here", "_law_ahead", "_law_sign"] (sp0 K F__law_comes) :=
  ok0 (g := B__law_comes) T.f__law_comes c__law_comes fun f cdv A outer s H E hr => have hu65 := u65 hr; 
(fss_cons (fs_if (L := []) (ft_cmp (op_eqA (K := K) hr.units) opd_eq gb_eq (fe_var 1) fe_str)
(fss_one (fs_ret (L := []) (fe_cmp (op_notInA (K := K) hu65) opd_inT (fe_var 2) (fe_ix (ix_A (K := K) (u1 hr.units)) opd_ix (fe_var 0) fe_int))))
fss_nil)
(fss_one (fs_ret (L := []) (fe_cmp (op_notInA (K := K) hu65) opd_inT (fe_op (op_addA K) opd_add (fe_var 1) (fe_var 2)) (fe_ix (ix_A (K := K) (u1 hr.units)) opd_ix (fe_var 0) fe_int)))))

noncomputable def B__law_stands_1 : Env → Out := (sIf [2] (bOr (bT (eOp (dIn true) (eOp dIx (eVar 1) (eVar 3)) (eVar 2))) (bNot (bT (eCall F__law_comes (aCons (eVar 0) (aCons (eSl (eSl (eVar 1) pNo (pYes (eVar 3))) (pYes (eUn dNeg (eC (.int 1)))) pNo) (aCons (eOp dIx (eVar 1) (eVar 3)) aNil)))))))
(sRet [] (eC (.bl false)))
sPass)
theorem B__law_stands_1_u (ρ : Env) : B__law_stands_1 ρ = (sIf [2] (bOr (bT (eOp (dIn true) (eOp dIx (eVar 1) (eVar 3)) (eVar 2))) (bNot (bT (eCall F__law_comes (aCons (eVar 0) (aCons (eSl (eSl (eVar 1) pNo (pYes (eVar 3))) (pYes (eUn dNeg (eC (.int 1)))) pNo) (aCons (eOp dIx (eVar 1) (eVar 3)) aNil)))))))
(sRet [] (eC (.bl false)))
sPass) ρ := rfl
noncomputable def B__law_stands : Env → Out := (sSeq (sOwn 2 [] (eComp [4] (iAny (eOp dIx (eVar 0) (eC (.int 0)))) (tgN 4) bYes (eOp dIx (eVar 4) (eC (.int 0)))))
(sSeq (sIf [] (bOr (bNot (bT (eIsi "str" (eVar 1)))) (bT (eOp dGt (eCall dLen (aCons (eVar 1) aNil)) (eOp dIx (eVar 0) (eC (.int 3))))))
(sRet [] (eC (.bl false)))
sPass)
(sSeq (sFor [] (iRange (aCons (eCall dLen (aCons (eVar 1) aNil)) aNil)) (tgN 3)
B__law_stands_1
[3])
(sRet [] (eC (.bl true))))))
theorem B__law_stands_u (ρ : Env) : B__law_stands ρ = (sSeq (sOwn 2 [] (eComp [4] (iAny (eOp dIx (eVar 0) (eC (.int 0)))) (tgN 4) bYes (eOp dIx (eVar 4) (eC (.int 0)))))
(sSeq (sIf [] (bOr (bNot (bT (eIsi "str" (eVar 1)))) (bT (eOp dGt (eCall dLen (aCons (eVar 1) aNil)) (eOp dIx (eVar 0) (eC (.int 3))))))
(sRet [] (eC (.bl false)))
sPass)
(sSeq (sFor [] (iRange (aCons (eCall dLen (aCons (eVar 1) aNil)) aNil)) (tgN 3)
B__law_stands_1
[3])
(sRet [] (eC (.bl true)))))) ρ := rfl
noncomputable def F__law_stands : List D → Res D := runD (["_law_tongue_here", "_law_thing"] : List Str).length n__law_stands.length B__law_stands
theorem ok__law_stands {P : Program} {w : World} {K : PySem.W.Frag} {mg : Str → Option Value} {base : Heap} (T : Txt K mg) : OkF P w K mg base CX0 (1 + 1) "_law_stands" ["_law_tongue_here", "_law_thing"] (sp0 K F__law_stands) :=
  ok0 (g := B__law_stands) T.f__law_stands c__law_stands fun f cdv A outer s H E hr => have hu65 := u65 hr; 
(fss_cons (fs_ownLc (L := []) 2 [("_law_one", 4)] c__law_stands.nd (fi_any (fe_ix (ix_A (K := K) (u1 hr.units)) opd_ix (fe_var 0) fe_int)) (fun _ _ _ _ _ => (fg_name 4 c__law_stands.nd)) (fun _ _ _ _ _ => fts_nil) (fun _ _ _ _ _ => (fe_ix (ix_A (K := K) (u1 hr.units)) opd_ix (fe_var 4) fe_int)) (blkOk_by (own := [("_law_one", 4)]) (N := n__law_stands) (sc := defScope s__law_stands) (by decide +kernel)) (sw_true rfl rfl rfl (by decide +kernel)))
(fss_cons (fs_if (L := []) (ft_w (fw_or (ft_not (ft_tru (fe_isi (t := "str") tn_str (fe_var 1) (pe_bltn (v := .ty "str") (by rfl) T.b_str (by decide +kernel) rfl) T.b_isinstance))) (fw_or1 (ft_cmp op_gt opd_gt gb_cmp (fe_callB (cr_len (K := K)) cd_len T.b_len (fa_cons (fe_var 1) fa_nil)) (fe_ix (ix_A (K := K) (u1 hr.units)) opd_ix (fe_var 0) fe_int)))))
(fss_one (fs_ret (L := []) fe_bl))
fss_nil)
(fss_cons (fs_for (L := []) [3] PassesOwn.never (fi_range1 T.b_range (fa_cons (fe_callB (cr_len (K := K)) cd_len T.b_len (fa_cons (fe_var 1) fa_nil)) fa_nil) (h1 := len1)) (fg_name 3 c__law_stands.nd)
(fss_one (fs_if (L := [2]) (ft_w (fw_or (ft_cmp (op_notInA (K := K) hu65) opd_inT gb_in (fe_ix (ix_A (K := K) (u1 hr.units)) opd_ix (fe_var 1) (fe_var 3)) (fe_var 2)) (fw_or1 (ft_not (ft_tru (fe_call (ok__law_comes T) hr (fa_cons (fe_var 0) (fa_cons (fe_sl (fe_sl (fe_var 1) fo_no (fo_yes (fe_var 3))) (fo_yes (fe_un un_neg und_neg fe_int)) fo_no) (fa_cons (fe_ix (ix_A (K := K) (u1 hr.units)) opd_ix (fe_var 1) (fe_var 3)) fa_nil)))))))))
(fss_one (fs_ret (L := []) fe_bl))
fss_nil)))
(fss_one (fs_ret (L := []) fe_bl)))))

noncomputable def B__law_is_word : Env → Out := (sSeq (sIf [] (bOr (bNot (bT (eCall F__law_stands (aCons (eVar 0) (aCons (eVar 1) aNil))))) (bT (eOp dEq (eVar 1) (eC (.str "")))))
(sRet [] (eC (.bl false)))
sPass)
(sRet [] (eOp (dIn false) (eOp dIx (eVar 1) (eUn dNeg (eC (.int 1)))) (eComp [2, 3, 4] (iAny (eOp dIx (eVar 0) (eC (.int 0)))) (tgT [(tgN 2), (tgN 3), (tgN 4)]) (bT (eOp dNotN (eVar 4) (eC .non))) (eVar 2)))))
theorem B__law_is_word_u (ρ : Env) : B__law_is_word ρ = (sSeq (sIf [] (bOr (bNot (bT (eCall F__law_stands (aCons (eVar 0) (aCons (eVar 1) aNil))))) (bT (eOp dEq (eVar 1) (eC (.str "")))))
(sRet [] (eC (.bl false)))
sPass)
(sRet [] (eOp (dIn false) (eOp dIx (eVar 1) (eUn dNeg (eC (.int 1)))) (eComp [2, 3, 4] (iAny (eOp dIx (eVar 0) (eC (.int 0)))) (tgT [(tgN 2), (tgN 3), (tgN 4)]) (bT (eOp dNotN (eVar 4) (eC .non))) (eVar 2))))) ρ := rfl
noncomputable def F__law_is_word : List D → Res D := runD (["_law_tongue_here", "_law_thing"] : List Str).length n__law_is_word.length B__law_is_word
theorem ok__law_is_word {P : Program} {w : World} {K : PySem.W.Frag} {mg : Str → Option Value} {base : Heap} (T : Txt K mg) : OkF P w K mg base CX0 (2 + 1) "_law_is_word" ["_law_tongue_here", "_law_thing"] (sp0 K F__law_is_word) :=
  ok0 (g := B__law_is_word) T.f__law_is_word c__law_is_word fun f cdv A outer s H E hr => have hu65 := u65 hr; 
(fss_cons (fs_if (L := []) (ft_w (fw_or (ft_not (ft_tru (fe_call (ok__law_stands T) hr (fa_cons (fe_var 0) (fa_cons (fe_var 1) fa_nil))))) (fw_or1 (ft_cmp (op_eqA (K := K) hr.units) opd_eq gb_eq (fe_var 1) fe_str))))
(fss_one (fs_ret (L := []) fe_bl))
fss_nil)
(fss_one (fs_ret (L := []) (fe_cmp (op_inA (K := K) hu65) opd_inF (fe_ix (ix_A (K := K) (u1 hr.units)) opd_ix (fe_var 1) (fe_un un_neg und_neg fe_int)) (fe_comp [("_law_sign", 2), ("_law_price_here", 3), ("_law_last", 4)] c__law_is_word.nd (fi_any (fe_ix (ix_A (K := K) (u1 hr.units)) opd_ix (fe_var 0) fe_int)) (fun _ _ _ _ _ => (fg_tup (fgs_cons (fg_name 2 c__law_is_word.nd) (fgs_cons (fg_name 3 c__law_is_word.nd) (fgs_cons (fg_name 4 c__law_is_word.nd) fgs_nil))))) (fun _ _ _ _ _ => (fts_one (ft_cmp op_notN opd_notN gb_notN (fe_var 4) fe_non))) (fun _ _ _ _ _ => (fe_var 2)) (blkOk_by (own := [("_law_sign", 2), ("_law_price_here", 3), ("_law_last", 4)]) (N := n__law_is_word) (sc := defScope s__law_is_word) (by decide +kernel)))))))

noncomputable def B__law_words_1 : Env → Out := (need 4 (sExt 4 [] (eComp [6] (iAny (eOp dIx (eVar 0) (eC (.int 0)))) (tgN 6) (bT (eCall F__law_comes (aCons (eVar 0) (aCons (eSl (eVar 5) (pYes (eUn dNeg (eC (.int 1)))) pNo) (aCons (eOp dIx (eVar 6) (eC (.int 0))) aNil))))) (eOp dAdd (eVar 5) (eOp dIx (eVar 6) (eC (.int 0)))))))
theorem B__law_words_1_u (ρ : Env) : B__law_words_1 ρ = (need 4 (sExt 4 [] (eComp [6] (iAny (eOp dIx (eVar 0) (eC (.int 0)))) (tgN 6) (bT (eCall F__law_comes (aCons (eVar 0) (aCons (eSl (eVar 5) (pYes (eUn dNeg (eC (.int 1)))) pNo) (aCons (eOp dIx (eVar 6) (eC (.int 0))) aNil))))) (eOp dAdd (eVar 5) (eOp dIx (eVar 6) (eC (.int 0))))))) ρ := rfl
noncomputable def B__law_words_2 : Env → Out := (sSeq (sOwn 4 [] (eLst aNil))
(sSeq (sFor [] (iAny (eVar 1)) (tgN 5)
B__law_words_1
[5, 6])
(sSeq (sAsg [4] (eVar 4) (tgN 1))
(need 2 (sExt 2 [] (eComp [5] (iAny (eVar 1)) (tgN 5) (bT (eCall F__law_is_word (aCons (eVar 0) (aCons (eVar 5) aNil)))) (eVar 5)))))))
theorem B__law_words_2_u (ρ : Env) : B__law_words_2 ρ = (sSeq (sOwn 4 [] (eLst aNil))
(sSeq (sFor [] (iAny (eVar 1)) (tgN 5)
B__law_words_1
[5, 6])
(sSeq (sAsg [4] (eVar 4) (tgN 1))
(need 2 (sExt 2 [] (eComp [5] (iAny (eVar 1)) (tgN 5) (bT (eCall F__law_is_word (aCons (eVar 0) (aCons (eVar 5) aNil)))) (eVar 5))))))) ρ := rfl
noncomputable def B__law_words : Env → Out := (sSeq (sAsg [] (eLst (aCons (eC (.str "")) aNil)) (tgN 1))
(sSeq (sOwn 2 [] (eLst aNil))
(sSeq (sFor [] (iRange (aCons (eOp dIx (eVar 0) (eC (.int 3))) aNil)) (tgN 3)
B__law_words_2
[3, 4, 5, 6])
(sRet [2] (eVar 2)))))
theorem B__law_words_u (ρ : Env) : B__law_words ρ = (sSeq (sAsg [] (eLst (aCons (eC (.str "")) aNil)) (tgN 1))
(sSeq (sOwn 2 [] (eLst aNil))
(sSeq (sFor [] (iRange (aCons (eOp dIx (eVar 0) (eC (.int 3))) aNil)) (tgN 3)
B__law_words_2
[3, 4, 5, 6])
(sRet [2] (eVar 2))))) ρ := rfl
noncomputable def F__law_words : List D → Res D := runD (["_law_tongue_here"] : List Str).length n__law_words.length B__law_words
theorem ok__law_words {P : Program} {w : World} {K : PySem.W.Frag} {mg : Str → Option Value} {base : Heap} (T : Txt K mg) : OkF P w K mg base CX0 (3 + 1) "_law_words" ["_law_tongue_here"] (sp0 K F__law_words) :=
  ok0 (g := B__law_words) T.f__law_words c__law_words fun f cdv A outer s H E hr => 
(fss_cons (fs_asg (L := []) (fe_lst (fa_cons fe_str fa_nil)) (fg_name 1 c__law_words.nd))
(fss_cons (fs_own (L := []) 2 (fw_lst fa_nil) c__law_words.nd)
(fss_cons (fs_for (L := []) [3, 4, 5, 6] PassesOwn.never (fi_range1 T.b_range (fa_cons (fe_ix (ix_A (K := K) (u1 hr.units)) opd_ix (fe_var 0) fe_int) fa_nil) (h1 := len1)) (fg_name 3 c__law_words.nd)
(fss_cons (fs_own (L := []) 4 (fw_lst fa_nil) c__law_words.nd)
(fss_cons (fs_for (L := []) [5, 6] PassesOwn.never (fi_any (fe_var 1)) (fg_name 5 c__law_words.nd)
(fss_one (fs_ext (L := []) 4 (fe_comp [("_law_one", 6)] c__law_words.nd (fi_any (fe_ix (ix_A (K := K) (u1 hr.units)) opd_ix (fe_var 0) fe_int)) (fun _ _ _ _ _ => (fg_name 6 c__law_words.nd)) (fun _ _ _ _ _ => (fts_one (ft_tru (fe_call (ok__law_comes T) hr (fa_cons (fe_var 0) (fa_cons (fe_sl (fe_var 5) (fo_yes (fe_un un_neg und_neg fe_int)) fo_no) (fa_cons (fe_ix (ix_A (K := K) (u1 hr.units)) opd_ix (fe_var 6) fe_int) fa_nil))))))) (fun _ _ _ _ _ => (fe_op (op_addA K) opd_add (fe_var 5) (fe_ix (ix_A (K := K) (u1 hr.units)) opd_ix (fe_var 6) fe_int))) (blkOk_by (own := [("_law_one", 6)]) (N := n__law_words) (sc := defScope s__law_words) (by decide +kernel))))))
(fss_cons (fs_asg (L := [4]) (fe_var 4) (fg_name 1 c__law_words.nd))
(fss_one (fs_ext (L := []) 2 (fe_comp [("_law_text", 5)] c__law_words.nd (fi_any (fe_var 1)) (fun _ _ _ _ _ => (fg_name 5 c__law_words.nd)) (fun _ _ _ _ _ => (fts_one (ft_tru (fe_call (ok__law_is_word T) hr (fa_cons (fe_var 0) (fa_cons (fe_var 5) fa_nil)))))) (fun _ _ _ _ _ => (fe_var 5)) (blkOk_by (own := [("_law_text", 5)]) (N := n__law_words) (sc := defScope s__law_words) (by decide +kernel)))))))))
(fss_one (fs_ret (L := [2]) (fe_var 2))))))

noncomputable def B__law_clashes : Env → Out := (sRet [] (eOp dNe (eComp [2] (iAny (eVar 0)) (tgN 2) (bOr (bT (eM isStr dStarts (eVar 2) (aCons (eVar 1) aNil))) (bT (eM isStr dStarts (eVar 1) (aCons (eVar 2) aNil)))) (eVar 2)) (eLst aNil)))
theorem B__law_clashes_u (ρ : Env) : B__law_clashes ρ = (sRet [] (eOp dNe (eComp [2] (iAny (eVar 0)) (tgN 2) (bOr (bT (eM isStr dStarts (eVar 2) (aCons (eVar 1) aNil))) (bT (eM isStr dStarts (eVar 1) (aCons (eVar 2) aNil)))) (eVar 2)) (eLst aNil))) ρ := rfl
noncomputable def F__law_clashes : List D → Res D := runD (["_law_book", "_law_word"] : List Str).length n__law_clashes.length B__law_clashes
theorem ok__law_clashes {P : Program} {w : World} {K : PySem.W.Frag} {mg : Str → Option Value} {base : Heap} (T : Txt K mg) : OkF P w K mg base CX0 (0 + 1) "_law_clashes" ["_law_book", "_law_word"] (sp0 K F__law_clashes) :=
  ok0 (g := B__law_clashes) T.f__law_clashes c__law_clashes fun f cdv A outer s H E hr => 
(fss_one (fs_ret (L := []) (fe_cmp (op_neA (K := K) hr.units) opd_ne (fe_comp [("_law_one", 2)] c__law_clashes.nd (fi_any (fe_var 0)) (fun _ _ _ _ _ => (fg_name 2 c__law_clashes.nd)) (fun _ _ _ _ _ => (fts_one (ft_w (fw_or (ft_tru (fe_m PySem.F.plainAttrs_str PySem.F.slot_str_startswith PySem.F.type_str_startswith mt_startswith md_starts (fe_var 2) (fa_cons (fe_var 1) fa_nil))) (fw_or1 (ft_tru (fe_m PySem.F.plainAttrs_str PySem.F.slot_str_startswith PySem.F.type_str_startswith mt_startswith md_starts (fe_var 1) (fa_cons (fe_var 2) fa_nil)))))))) (fun _ _ _ _ _ => (fe_var 2)) (blkOk_by (own := [("_law_one", 2)]) (N := n__law_clashes) (sc := defScope s__law_clashes) (by decide +kernel))) (fe_lst fa_nil))))

noncomputable def B__law_world_1 : Env → Out := (sSeq (sOwn 5 [] (eCall F__law_source (aCons (eCall F__law_cell (aCons (eVar 0) (aCons (eVar 4) aNil))) (aCons (eVar 4) aNil))))
(sSeq (sAsgM (mIO 0 5 F__law_draw (mCons (mOp dAdd (mP [] (eC (.int 1))) (mIO 0 5 F__law_draw (mAP [] (aCons (eCall dLen (aCons (eVar 2) aNil)) aNil)))) mNil)) (tgN 6))
(sSeq (sAsgM (mOp dIx (mP [] (eVar 2)) (mOp dIx (mP [] (eLst (aCons (eVar 6) (aCons (eOp dSub (eOp dSub (eCall dLen (aCons (eVar 2) aNil)) (eC (.int 1))) (eVar 6)) (aCons (eOp dSub (eOp dSub (eCall dLen (aCons (eVar 2) aNil)) (eC (.int 1))) (eVar 6)) aNil))))) (mIO 0 5 F__law_draw (mAP [] (aCons (eC (.int 3)) aNil))))) (tgN 7))
(sIf [3] (bAnd (bT (eOp dLt (eCall dLen (aCons (eVar 3) aNil)) (eC (.int 20)))) (bNot (bT (eCall F__law_clashes (aCons (eVar 3) (aCons (eVar 7) aNil))))))
(need 3 (sApp 3 [] (eVar 7)))
sPass))))
theorem B__law_world_1_u (ρ : Env) : B__law_world_1 ρ = (sSeq (sOwn 5 [] (eCall F__law_source (aCons (eCall F__law_cell (aCons (eVar 0) (aCons (eVar 4) aNil))) (aCons (eVar 4) aNil))))
(sSeq (sAsgM (mIO 0 5 F__law_draw (mCons (mOp dAdd (mP [] (eC (.int 1))) (mIO 0 5 F__law_draw (mAP [] (aCons (eCall dLen (aCons (eVar 2) aNil)) aNil)))) mNil)) (tgN 6))
(sSeq (sAsgM (mOp dIx (mP [] (eVar 2)) (mOp dIx (mP [] (eLst (aCons (eVar 6) (aCons (eOp dSub (eOp dSub (eCall dLen (aCons (eVar 2) aNil)) (eC (.int 1))) (eVar 6)) (aCons (eOp dSub (eOp dSub (eCall dLen (aCons (eVar 2) aNil)) (eC (.int 1))) (eVar 6)) aNil))))) (mIO 0 5 F__law_draw (mAP [] (aCons (eC (.int 3)) aNil))))) (tgN 7))
(sIf [3] (bAnd (bT (eOp dLt (eCall dLen (aCons (eVar 3) aNil)) (eC (.int 20)))) (bNot (bT (eCall F__law_clashes (aCons (eVar 3) (aCons (eVar 7) aNil))))))
(need 3 (sApp 3 [] (eVar 7)))
sPass)))) ρ := rfl
noncomputable def B__law_world : Env → Out := (sSeq (sAsg [] (eCall F__law_tongue (aCons (eVar 0) (aCons (eC (.int 0)) (aCons (eC (.int 6)) (aCons (eLst (aCons (eC (.int 8)) (aCons (eC (.int 5)) (aCons (eC (.int 4)) (aCons (eC (.int 3)) (aCons (eC (.int 3)) aNil)))))) aNil))))) (tgN 1))
(sSeq (sAsg [] (eCall F__law_words (aCons (eVar 1) aNil)) (tgN 2))
(sSeq (sIf [] (bT (eOp dEq (eVar 2) (eLst aNil)))
(sSeq (sAsg [] (eTup (aCons (eComp [8, 9, 10] (iAny (eOp dIx (eVar 1) (eC (.int 0)))) (tgT [(tgN 8), (tgN 9), (tgN 10)]) bYes (eTup (aCons (eVar 8) (aCons (eVar 9) (aCons (eVar 9) aNil))))) (aCons (eLst aNil) (aCons (eLst aNil) (aCons (eOp dIx (eVar 1) (eC (.int 3))) aNil))))) (tgN 1))
(sAsg [] (eCall F__law_words (aCons (eVar 1) aNil)) (tgN 2)))
sPass)
(sSeq (sOwn 3 [] (eLst aNil))
(sSeq (sFor [] (iRange (aCons (eC (.int 2)) (aCons (eCall dMax2 (aCons (eC (.int 6)) (aCons (eCall dMin2 (aCons (eCall dLen (aCons (eVar 0) aNil)) (aCons (eC (.int 63)) aNil))) aNil))) aNil))) (tgN 4)
B__law_world_1
[4, 5, 6, 7])
(sRet [3] (eTup (aCons (eVar 1) (aCons (eVar 3) aNil)))))))))
theorem B__law_world_u (ρ : Env) : B__law_world ρ = (sSeq (sAsg [] (eCall F__law_tongue (aCons (eVar 0) (aCons (eC (.int 0)) (aCons (eC (.int 6)) (aCons (eLst (aCons (eC (.int 8)) (aCons (eC (.int 5)) (aCons (eC (.int 4)) (aCons (eC (.int 3)) (aCons (eC (.int 3)) aNil)))))) aNil))))) (tgN 1))
(sSeq (sAsg [] (eCall F__law_words (aCons (eVar 1) aNil)) (tgN 2))
(sSeq (sIf [] (bT (eOp dEq (eVar 2) (eLst aNil)))
(sSeq (sAsg [] (eTup (aCons (eComp [8, 9, 10] (iAny (eOp dIx (eVar 1) (eC (.int 0)))) (tgT [(tgN 8), (tgN 9), (tgN 10)]) bYes (eTup (aCons (eVar 8) (aCons (eVar 9) (aCons (eVar 9) aNil))))) (aCons (eLst aNil) (aCons (eLst aNil) (aCons (eOp dIx (eVar 1) (eC (.int 3))) aNil))))) (tgN 1))
(sAsg [] (eCall F__law_words (aCons (eVar 1) aNil)) (tgN 2)))
sPass)
(sSeq (sOwn 3 [] (eLst aNil))
(sSeq (sFor [] (iRange (aCons (eC (.int 2)) (aCons (eCall dMax2 (aCons (eC (.int 6)) (aCons (eCall dMin2 (aCons (eCall dLen (aCons (eVar 0) aNil)) (aCons (eC (.int 63)) aNil))) aNil))) aNil))) (tgN 4)
B__law_world_1
[4, 5, 6, 7])
(sRet [3] (eTup (aCons (eVar 1) (aCons (eVar 3) aNil))))))))) ρ := rfl
noncomputable def F__law_world : List D → Res D := runD (["_law_script"] : List Str).length n__law_world.length B__law_world
theorem ok__law_world {P : Program} {w : World} {K : PySem.W.Frag} {mg : Str → Option Value} {base : Heap} (T : Txt K mg) : OkF P w K mg base CX0 (4 + 1) "_law_world" ["_law_script"] (sp0 K F__law_world) :=
  ok0 (g := B__law_world) T.f__law_world c__law_world fun f cdv A outer s H E hr => 
(fss_cons (fs_asg (L := []) (fe_call (ok__law_tongue T) hr (fa_cons (fe_var 0) (fa_cons fe_int (fa_cons fe_int (fa_cons (fe_lst (fa_cons fe_int (fa_cons fe_int (fa_cons fe_int (fa_cons fe_int (fa_cons fe_int fa_nil)))))) fa_nil))))) (fg_name 1 c__law_world.nd))
(fss_cons (fs_asg (L := []) (fe_call (ok__law_words T) hr (fa_cons (fe_var 1) fa_nil)) (fg_name 2 c__law_world.nd))
(fss_cons (fs_if (L := []) (ft_cmp (op_eqA (K := K) hr.units) opd_eq gb_eq (fe_var 2) (fe_lst fa_nil))
(fss_cons (fs_asg (L := []) (fe_tup (fa_cons (fe_comp [("_law_sign", 8), ("_law_price_here", 9), ("_law_last", 10)] c__law_world.nd (fi_any (fe_ix (ix_A (K := K) (u1 hr.units)) opd_ix (fe_var 1) fe_int)) (fun _ _ _ _ _ => (fg_tup (fgs_cons (fg_name 8 c__law_world.nd) (fgs_cons (fg_name 9 c__law_world.nd) (fgs_cons (fg_name 10 c__law_world.nd) fgs_nil))))) (fun _ _ _ _ _ => fts_nil) (fun _ _ _ _ _ => (fe_tup (fa_cons (fe_var 8) (fa_cons (fe_var 9) (fa_cons (fe_var 9) fa_nil))))) (blkOk_by (own := [("_law_sign", 8), ("_law_price_here", 9), ("_law_last", 10)]) (N := n__law_world) (sc := defScope s__law_world) (by decide +kernel))) (fa_cons (fe_lst fa_nil) (fa_cons (fe_lst fa_nil) (fa_cons (fe_ix (ix_A (K := K) (u1 hr.units)) opd_ix (fe_var 1) fe_int) fa_nil))))) (fg_name 1 c__law_world.nd))
(fss_one (fs_asg (L := []) (fe_call (ok__law_words T) hr (fa_cons (fe_var 1) fa_nil)) (fg_name 2 c__law_world.nd))))
fss_nil)
(fss_cons (fs_own (L := []) 3 (fw_lst fa_nil) c__law_world.nd)
(fss_cons (fs_for (L := []) [4, 5, 6, 7] PassesOwn.never (fi_range2 T.b_range (fa_cons fe_int (fa_cons (fe_callB (call_max2 rfl) cd_max2 T.b_max (fa_cons fe_int (fa_cons (fe_callB (call_min2 rfl) cd_min2 T.b_min (fa_cons (fe_callB (cr_len (K := K)) cd_len T.b_len (fa_cons (fe_var 0) fa_nil)) (fa_cons fe_int fa_nil))) fa_nil))) fa_nil)) len2) (fg_name 4 c__law_world.nd)
(fss_cons (fs_own (L := []) 5 (fw_call (ok__law_source T) hr (fa_cons (fe_call (ok__law_cell T) hr (fa_cons (fe_var 0) (fa_cons (fe_var 4) fa_nil))) (fa_cons (fe_var 4) fa_nil))) c__law_world.nd)
(fss_cons (fs_asgM (me_io (ok__law_draw T) hr (mio_here 5 (ma_cons (me_op (op_addA K) opd_add (me_p (L := []) fe_int) (me_io (ok__law_draw T) hr (mio_here 5 (ma_p (L := []) (fa_cons (fe_callB (cr_len (K := K)) cd_len T.b_len (fa_cons (fe_var 2) fa_nil)) fa_nil))))) ma_nil))) (fg_name 6 c__law_world.nd))
(fss_cons (fs_asgM (me_ix (ix_A (K := K) (u1 hr.units)) opd_ix (me_p (L := []) (fe_var 2)) (me_ix (ix_A (K := K) (u1 hr.units)) opd_ix (me_p (L := []) (fe_lst (fa_cons (fe_var 6) (fa_cons (fe_op op_sub opd_sub (fe_op op_sub opd_sub (fe_callB (cr_len (K := K)) cd_len T.b_len (fa_cons (fe_var 2) fa_nil)) fe_int) (fe_var 6)) (fa_cons (fe_op op_sub opd_sub (fe_op op_sub opd_sub (fe_callB (cr_len (K := K)) cd_len T.b_len (fa_cons (fe_var 2) fa_nil)) fe_int) (fe_var 6)) fa_nil))))) (me_io (ok__law_draw T) hr (mio_here 5 (ma_p (L := []) (fa_cons fe_int fa_nil)))))) (fg_name 7 c__law_world.nd))
(fss_one (fs_if (L := [3]) (ft_w (fw_and (ft_cmp op_lt opd_lt gb_cmp (fe_callB (cr_len (K := K)) cd_len T.b_len (fa_cons (fe_var 3) fa_nil)) fe_int) (fw_and1 (ft_not (ft_tru (fe_call (ok__law_clashes T) hr (fa_cons (fe_var 3) (fa_cons (fe_var 7) fa_nil))))))))
(fss_one (fs_app (L := []) 3 (fe_var 7)))
fss_nil))))))
(fss_one (fs_ret (L := [3]) (fe_tup (fa_cons (fe_var 1) (fa_cons (fe_var 3) fa_nil))))))))))

end Du

namespace Du
open PySem PySem.Spec PyProof.Rows L2 Dear
noncomputable def B__law_read_1 (rec : List D → Res (D × D)) : Env → Out := (sSeq (sIf [] (bOr (bNot (bT (eIsi "tuple" (eVar 5)))) (bOr (bT (eOp dNe (eCall dLen (aCons (eVar 5) aNil)) (eC (.int 2)))) (bT (eOp (dIn true) (eOp dIx (eVar 5) (eC (.int 0))) (eVar 0)))))
(sRet [] (eC (.bl false)))
sPass)
(sSeq (sIf [] (bOr (bT (eOp dLe (eM isLst dIndex (eVar 0) (aCons (eOp dIx (eVar 5) (eC (.int 0))) aNil)) (eVar 4))) (bT (eIsi "bool" (eOp dIx (eVar 5) (eC (.int 1))))))
(sRet [] (eC (.bl false)))
sPass)
(sSeq (sAsg [] (eM isLst dIndex (eVar 0) (aCons (eOp dIx (eVar 5) (eC (.int 0))) aNil)) (tgN 4))
(sIf [] (bT (eIsi "int" (eOp dIx (eVar 5) (eC (.int 1)))))
(sSeq (sIf [3] (bT (eOp (dIn false) (eOp dIx (eVar 5) (eC (.int 1))) (eVar 3)))
(sRet [] (eC (.bl false)))
sPass)
(sPutD 3 [] (eOp dAdd (eVar 2) (eOp dIx (eVar 5) (eC (.int 0)))) (eOp dIx (eVar 5) (eC (.int 1)))))
(sIfM (mNot (mTest (mIO 3 3 rec (mCons (mP [] (eVar 0)) (mCons (mP [] (eOp dIx (eVar 5) (eC (.int 1)))) (mCons (mP [] (eOp dAdd (eVar 2) (eOp dIx (eVar 5) (eC (.int 0))))) (mAP [] aNil)))))))
(sRet [] (eC (.bl false)))
sPass)))))
theorem B__law_read_1_u (rec : List D → Res (D × D)) (ρ : Env) : B__law_read_1 rec ρ = (sSeq (sIf [] (bOr (bNot (bT (eIsi "tuple" (eVar 5)))) (bOr (bT (eOp dNe (eCall dLen (aCons (eVar 5) aNil)) (eC (.int 2)))) (bT (eOp (dIn true) (eOp dIx (eVar 5) (eC (.int 0))) (eVar 0)))))
(sRet [] (eC (.bl false)))
sPass)
(sSeq (sIf [] (bOr (bT (eOp dLe (eM isLst dIndex (eVar 0) (aCons (eOp dIx (eVar 5) (eC (.int 0))) aNil)) (eVar 4))) (bT (eIsi "bool" (eOp dIx (eVar 5) (eC (.int 1))))))
(sRet [] (eC (.bl false)))
sPass)
(sSeq (sAsg [] (eM isLst dIndex (eVar 0) (aCons (eOp dIx (eVar 5) (eC (.int 0))) aNil)) (tgN 4))
(sIf [] (bT (eIsi "int" (eOp dIx (eVar 5) (eC (.int 1)))))
(sSeq (sIf [3] (bT (eOp (dIn false) (eOp dIx (eVar 5) (eC (.int 1))) (eVar 3)))
(sRet [] (eC (.bl false)))
sPass)
(sPutD 3 [] (eOp dAdd (eVar 2) (eOp dIx (eVar 5) (eC (.int 0)))) (eOp dIx (eVar 5) (eC (.int 1)))))
(sIfM (mNot (mTest (mIO 3 3 rec (mCons (mP [] (eVar 0)) (mCons (mP [] (eOp dIx (eVar 5) (eC (.int 1)))) (mCons (mP [] (eOp dAdd (eVar 2) (eOp dIx (eVar 5) (eC (.int 0))))) (mAP [] aNil)))))))
(sRet [] (eC (.bl false)))
sPass))))) ρ := rfl
noncomputable def B__law_read (rec : List D → Res (D × D)) : Env → Out := (sSeq (sIf [] (bOr (bNot (bT (eIsi "list" (eVar 1)))) (bOr (bT (eOp dEq (eVar 1) (eLst aNil))) (bT (eOp dGt (eCall dLen (aCons (eVar 2) aNil)) (eC (.int 8))))))
(sRet [] (eC (.bl false)))
sPass)
(sSeq (sAsg [] (eUn dNeg (eC (.int 1))) (tgN 4))
(sSeq (sFor [] (iAny (eVar 1)) (tgN 5)
(B__law_read_1 rec)
[5])
(sRet [] (eC (.bl true))))))
theorem B__law_read_u (rec : List D → Res (D × D)) (ρ : Env) : B__law_read rec ρ = (sSeq (sIf [] (bOr (bNot (bT (eIsi "list" (eVar 1)))) (bOr (bT (eOp dEq (eVar 1) (eLst aNil))) (bT (eOp dGt (eCall dLen (aCons (eVar 2) aNil)) (eC (.int 8))))))
(sRet [] (eC (.bl false)))
sPass)
(sSeq (sAsg [] (eUn dNeg (eC (.int 1))) (tgN 4))
(sSeq (sFor [] (iAny (eVar 1)) (tgN 5)
(B__law_read_1 rec)
[5])
(sRet [] (eC (.bl true)))))) ρ := rfl
noncomputable def F__law_read : Nat → List D → Res (D × D)
  | 0 => fun _ => .bad
  | N + 1 => runIO (["_law_names", "_law_thing", "_law_begin", "_law_found"] : List Str).length n__law_read.length 3 (B__law_read (F__law_read N))
theorem ok__law_read {P : Program} {w : World} {K : PySem.W.Frag} {mg : Str → Option Value} {base : Heap} (T : Txt K mg) : ∀ N, OkF P w K mg base CX0 (N + 1) "_law_read" ["_law_names", "_law_thing", "_law_begin", "_law_found"] (spIO K 3 (F__law_read N))
  | 0 => T.f__law_read.ok c__law_read (fun vs H Q E h => by
    obtain ⟨_, _, h⟩ := h
    simp [F__law_read] at h) (fun f cdv A outer s H vs Q E hr h => by
    obtain ⟨_, _, h⟩ := h
    simp [F__law_read] at h)
  | N + 1 => okIO 3 (g := B__law_read (F__law_read N)) T.f__law_read c__law_read fun f cdv A outer s H E hr => have hu65 := u65 hr; 
(fss_cons (fs_if (L := []) (ft_w (fw_or (ft_not (ft_tru (fe_isi (t := "list") tn_list (fe_var 1) (pe_bltn (v := .ty "list") (by rfl) T.b_list (by decide +kernel) rfl) T.b_isinstance))) (fw_or (ft_cmp (op_eqA (K := K) hr.units) opd_eq gb_eq (fe_var 1) (fe_lst fa_nil)) (fw_or1 (ft_cmp op_gt opd_gt gb_cmp (fe_callB (cr_len (K := K)) cd_len T.b_len (fa_cons (fe_var 2) fa_nil)) fe_int)))))
(fss_one (fs_ret (L := []) fe_bl))
fss_nil)
(fss_cons (fs_asg (L := []) (fe_un un_neg und_neg fe_int) (fg_name 4 c__law_read.nd))
(fss_cons (fs_for (L := []) [5] PassesOwn.never (fi_any (fe_var 1)) (fg_name 5 c__law_read.nd)
(fss_cons (fs_if (L := []) (ft_w (fw_or (ft_not (ft_tru (fe_isi (t := "tuple") tn_tuple (fe_var 5) (pe_bltn (v := .ty "tuple") (by rfl) T.b_tuple (by decide +kernel) rfl) T.b_isinstance))) (fw_or (ft_cmp (op_neA (K := K) hr.units) opd_ne gb_ne (fe_callB (cr_len (K := K)) cd_len T.b_len (fa_cons (fe_var 5) fa_nil)) fe_int) (fw_or1 (ft_cmp (op_notInA (K := K) hu65) opd_inT gb_in (fe_ix (ix_A (K := K) (u1 hr.units)) opd_ix (fe_var 5) fe_int) (fe_var 0))))))
(fss_one (fs_ret (L := []) fe_bl))
fss_nil)
(fss_cons (fs_if (L := []) (ft_w (fw_or (ft_cmp op_le opd_le gb_cmp (fe_m PySem.F.plainAttrs_list PySem.F.slot_list_index PySem.F.type_list_index (mt_index_k K) md_index (fe_var 0) (fa_cons (fe_ix (ix_A (K := K) (u1 hr.units)) opd_ix (fe_var 5) fe_int) fa_nil)) (fe_var 4)) (fw_or1 (ft_tru (fe_isi (t := "bool") tn_bool (fe_ix (ix_A (K := K) (u1 hr.units)) opd_ix (fe_var 5) fe_int) (pe_bltn (v := .ty "bool") (by rfl) T.b_bool (by decide +kernel) rfl) T.b_isinstance)))))
(fss_one (fs_ret (L := []) fe_bl))
fss_nil)
(fss_cons (fs_asg (L := []) (fe_m PySem.F.plainAttrs_list PySem.F.slot_list_index PySem.F.type_list_index (mt_index_k K) md_index (fe_var 0) (fa_cons (fe_ix (ix_A (K := K) (u1 hr.units)) opd_ix (fe_var 5) fe_int) fa_nil)) (fg_name 4 c__law_read.nd))
(fss_one (fs_if (L := []) (ft_tru (fe_isi (t := "int") tn_int (fe_ix (ix_A (K := K) (u1 hr.units)) opd_ix (fe_var 5) fe_int) (pe_bltn (v := .ty "int") (by rfl) T.b_int (by decide +kernel) rfl) T.b_isinstance))
(fss_cons (fs_if (L := [3]) (ft_cmp (op_inA (K := K) hu65) opd_inF gb_in (fe_ix (ix_A (K := K) (u1 hr.units)) opd_ix (fe_var 5) fe_int) (fe_var 3))
(fss_one (fs_ret (L := []) fe_bl))
fss_nil)
(fss_one (fs_putD (L := []) 3 (u1 hr.units) (fe_op (op_addA K) opd_add (fe_var 2) (fe_ix (ix_A (K := K) (u1 hr.units)) opd_ix (fe_var 5) fe_int)) (fe_ix (ix_A (K := K) (u1 hr.units)) opd_ix (fe_var 5) fe_int))))
(fss_one (fs_ifM (mt_not (mt_val (me_io (hk := Nat.le_refl _) (ok__law_read T N) hr (mio_cons (me_p (L := []) (fe_var 0)) (mio_cons (me_p (L := []) (fe_ix (ix_A (K := K) (u1 hr.units)) opd_ix (fe_var 5) fe_int)) (mio_cons (me_p (L := []) (fe_op (op_addA K) opd_add (fe_var 2) (fe_ix (ix_A (K := K) (u1 hr.units)) opd_ix (fe_var 5) fe_int))) (mio_here 3 (ma_p (L := []) fa_nil))))))))
(fss_one (fs_ret (L := []) fe_bl))
fss_nil))))))))
(fss_one (fs_ret (L := []) fe_bl)))))
end Du

namespace Du
open PySem PySem.Spec PyProof.Rows L2 Dear
/-! ### levels, ranks -/
theorem words_level {T : Tg} {w : List Nat} (h : w ∈ T.words) : ∃ m, m < T.long ∧ w ∈ T.level (m + 1) ∧ T.isW w = true := by
  have key : ∀ {n : Nat} {w : List Nat}, w ∈ T.upto n → ∃ m, m < n ∧ w ∈ T.level (m + 1) := by
    intro n
    induction n with
    | zero => intro w h; cases h
    | succ n ih =>
      intro w h
      rcases List.mem_append.mp (show w ∈ T.upto n ++ T.level (n + 1) from h) with h | h
      · obtain ⟨m, a, b⟩ := ih h
        exact ⟨m, by omega, b⟩
      · exact ⟨n, by omega, h⟩
  obtain ⟨h1, h2⟩ := List.mem_filter.mp h
  obtain ⟨m, a, b⟩ := key h1
  exact ⟨m, a, b, h2⟩
theorem level_cods {T : Tg} : ∀ {n : Nat} {w : List Nat}, w ∈ T.level n → ∀ c ∈ w, c ∈ T.codes
  | 0, w, hw, c, hc => by
    rw [List.mem_singleton.mp (show w ∈ [[]] from hw)] at hc
    cases hc
  | n + 1, w, hw, c, hc => by
    obtain ⟨v, r, hv, hr, _, rfl⟩ := level_mem hw
    rcases List.mem_append.mp hc with m | m
    · exact level_cods hv c m
    · rw [List.mem_singleton.mp m]
      exact List.mem_map.mpr ⟨r, hr, rfl⟩
theorem words_cods {T : Tg} {w : List Nat} (h : w ∈ T.words) : ∀ c ∈ w, c ∈ T.codes := by
  obtain ⟨m, _, hl, _⟩ := words_level h
  exact level_cods hl
theorem cods_asc {T : Tg} (h : Good T) {w : List Nat} (hw : ∀ c ∈ w, c ∈ T.codes) : Asc w := fun c hc => by
  obtain ⟨r, hr, rfl⟩ := List.mem_map.mp (hw c hc)
  have := (h.row r hr).hi
  omega
def Tg.rk (T : Tg) (c : Nat) : Nat := (T.codes.findIdx? fun x => decide (x = c)).getD 0
theorem rk_some {T : Tg} {c : Nat} (h : c ∈ T.codes) : T.codes.findIdx? (fun x => decide (x = c)) = some (T.rk c) := by
  unfold Tg.rk
  have : (T.codes.findIdx? fun x => decide (x = c)).isSome = true := by
    rw [List.findIdx?_isSome]
    exact List.any_eq_true.mpr ⟨c, h, decide_eq_true rfl⟩
  obtain ⟨i, e⟩ := Option.isSome_iff_exists.mp this
  rw [e]
  rfl
theorem rk_get {T : Tg} {c : Nat} (h : c ∈ T.codes) : T.codes[T.rk c]? = some c := by
  obtain ⟨h1, h2, _⟩ := List.findIdx?_eq_some_iff_getElem.mp (rk_some h)
  rw [List.getElem?_eq_getElem h1, of_decide_eq_true h2]
theorem rk_inj {T : Tg} : ∀ x ∈ T.codes, ∀ y ∈ T.codes, T.rk x = T.rk y → x = y := fun x hx y hy e => by
  have a := rk_get hx
  rw [e, rk_get hy] at a
  exact (Option.some.inj a).symm
theorem index_e {T : Tg} {c : Nat} (hc : c ∈ T.codes) : dIndex (.lst (T.codes.map fun c => .str (txt [c]))) [.str (txt [c])] = .ok (.int (T.rk c : Nat)) := by
  have fl : (flatD (.str (txt [c])) && (T.codes.map fun c => D.str (txt [c])).all flatD) = true := by
    have : (T.codes.map fun c => D.str (txt [c])).all flatD = true := List.all_eq_true.mpr fun d hd => by
      obtain ⟨r, _, rfl⟩ := List.mem_map.mp hd
      rfl
    rw [this]
    rfl
  have fi : (T.codes.map fun c => D.str (txt [c])).findIdx? (fun e => pyEq e (.str (txt [c]))) = some (T.rk c) := by
    rw [← rk_some hc]
    rw [List.findIdx?_map]
    congr 1
    funext r
    show pyEq (.str (txt [r])) (.str (txt [c])) = decide (r = c)
    unfold pyEq
    rw [txt_eq]
    exact decide_eq_decide.mpr ⟨fun e => by cases e; rfl, fun e => by rw [e]⟩
  show (if (flatD (.str (txt [c])) && (T.codes.map fun c => D.str (txt [c])).all flatD) = true then match (T.codes.map fun c => D.str (txt [c])).findIdx? (fun e => pyEq e (.str (txt [c]))) with | some j => Res.ok (D.int j) | none => .bad else .bad) = _
  rw [if_pos fl, fi]
theorem rk_lt {T : Tg} (nd : T.codes.Nodup) : T.codes.Pairwise fun a b => T.rk a < T.rk b := by
  rw [List.pairwise_iff_getElem]
  intro i j hi hj hij
  have key : ∀ (k : Nat) (hk : k < T.codes.length), T.rk T.codes[k] = k := by
    intro k hk
    have g := rk_get (T := T) (c := T.codes[k]) (List.getElem_mem hk)
    have hr : T.rk T.codes[k] < T.codes.length := by
      rcases Nat.lt_or_ge (T.rk T.codes[k]) T.codes.length with h | h
      · exact h
      · rw [List.getElem?_eq_none_iff.mpr h] at g; cases g
    rw [List.getElem?_eq_getElem hr] at g
    have g := Option.some.inj g
    rcases Nat.lt_trichotomy (T.rk T.codes[k]) k with h | h | h
    · exact absurd g ((List.pairwise_iff_getElem.mp nd) _ _ hr hk h)
    · exact h
    · exact absurd g.symm ((List.pairwise_iff_getElem.mp nd) _ _ hk hr h)
  rw [key i hi, key j hj]
  exact hij
end Du

namespace Du
open PySem PySem.Spec PyProof.Rows L2 Dear
/-! ### k15: trees read -/
set_option maxHeartbeats 400000
def rdS (nm thing : D) (b : List Nat) (fv : List (D × D)) (last : Int) (br : Option Slot) : Env := [some (.frz nm), some (.frz thing), some (.frz (.str (txt b))), some (.own true (.dct false fv)), some (.frz (.int last)), br]
theorem rd_leaf {rec : List D → Res (D × D)} {nm thing : D} {b : List Nat} {fv : List (D × D)} {last j : Int} {c n : Nat} (hin : dIn true (.str (txt [c])) nm = .ok (.bl false)) (hix : dIndex nm [.str (txt [c])] = .ok (.int j)) (hl : isLst nm = true) (hj : last < j) (hb : b.length ≤ 100)
    (hn : ∀ p ∈ fv, p.1 ≠ .int (n : Nat)) (hf : fv.length ≤ 1000) :
    B__law_read_1 rec (rdS nm thing b fv last (some (.frz (.tup [.str (txt [c]), .int (n : Nat)])))) = .nx (rdS nm thing b (fv ++ [(.int (n : Nat), .str (txt (b ++ [c])))]) j (some (.frz (.tup [.str (txt [c]), .int (n : Nat)])))) := by
  have g0 : dGet fv (.int (n : Nat)) = none := dGet_none hn
  have nj : ¬ j ≤ last := by omega
  have df : dIn false (.int (n : Nat)) (.dct false fv) = .ok (.bl false) := by rw [dIn_dct rfl, g0]; rfl
  have em : ∀ (x1 x2 x3 x4 : Option D), eM isLst dIndex (eVar 0) (aCons (eOp dIx (eVar 5) (eC (.int 0))) aNil) [some nm, x1, x2, x3, x4, some (.tup [.str (txt [c]), .int (n : Nat)])] = .ok (.int j) := fun _ _ _ _ => by rw [eM_of2 (a := nm) (as := [.str (txt [c])]) rfl hl (by simp), hix]
  have dp := dPut_new (v := .str (txt (b ++ [c]))) hn
  rw [B__law_read_1_u]
  unfold rdS
  simp [hin, em, nj, df, dp, txt_app, txt_length, show b.length + 1 ≤ 16777215 by omega, show fv.length ≤ 16777215 by omega]
theorem rd_node {rec : List D → Res (D × D)} {nm thing node : D} {b : List Nat} {fv fv' : List (D × D)} {last j : Int} {c : Nat} (hin : dIn true (.str (txt [c])) nm = .ok (.bl false)) (hix : dIndex nm [.str (txt [c])] = .ok (.int j)) (hl : isLst nm = true) (hj : last < j) (hb : b.length ≤ 100)
    {bs : List D} (hno : node = .lst bs) (hr : rec [nm, node, .str (txt (b ++ [c])), .dct false fv] = .ok (.bl true, .dct false fv')) :
    B__law_read_1 rec (rdS nm thing b fv last (some (.frz (.tup [.str (txt [c]), node])))) = .nx (rdS nm thing b fv' j (some (.frz (.tup [.str (txt [c]), node])))) := by
  have nj : ¬ j ≤ last := by omega
  subst hno
  have em : ∀ (x1 x2 x3 x4 : Option D), eM isLst dIndex (eVar 0) (aCons (eOp dIx (eVar 5) (eC (.int 0))) aNil) [some nm, x1, x2, x3, x4, some (.tup [.str (txt [c]), .lst bs])] = .ok (.int j) := fun _ _ _ _ => by rw [eM_of2 (a := nm) (as := [.str (txt [c])]) rfl hl (by simp), hix]
  rw [B__law_read_1_u]
  unfold rdS
  simp [hin, em, nj, txt_app, txt_length, show b.length + 1 ≤ 16777215 by omega, hr]
end Du

namespace Du
open PySem PySem.Spec PyProof.Rows L2 Dear
/-! ### k15: what is read of a tree -/
set_option maxHeartbeats 400000
def lvB (lv : List Nat → List (List Nat × Nat) → List (Nat × List Nat)) (b : List Nat) (c : Nat) : List (List Nat × Nat) → List (Nat × List Nat)
  | [] => []
  | [([], n)] => [(n, b ++ [c])]
  | l => lv (b ++ [c]) l
def lvT (cs : List Nat) : Nat → List Nat → List (List Nat × Nat) → List (Nat × List Nat)
  | 0, _, _ => []
  | k + 1, b, ends => cs.flatMap fun c => lvB (lvT cs k) b c (belE c ends)
abbrev leafD (p : Nat × List Nat) : D × D := (.int (p.1 : Nat), .str (txt p.2))
structure EOk (cs : List Nat) (k : Nat) (b : List Nat) (ends : List (List Nat × Nat)) : Prop where
  ne : ∀ e ∈ ends, e.1 ≠ []
  cod : ∀ e ∈ ends, ∀ c ∈ e.1, c ∈ cs
  len : ∀ e ∈ ends, e.1.length + 1 ≤ k
  tot : ∀ e ∈ ends, b.length + e.1.length ≤ 8
  ap : ends.Pairwise fun a b => ¬ a.1 <+: b.1 ∧ ¬ b.1 <+: a.1
theorem belE_mem {c : Nat} {ends : List (List Nat × Nat)} {e : List Nat × Nat} : e ∈ belE c ends ↔ (c :: e.1, e.2) ∈ ends := by
  unfold belE
  rw [List.mem_map]
  constructor
  · rintro ⟨a, ha, rfl⟩
    obtain ⟨h1, h2⟩ := List.mem_filter.mp ha
    obtain ⟨w, n⟩ := a
    have h3 : w.take 1 = [c] := of_decide_eq_true h2
    match w, h3, h1 with
    | d :: w, h3, h1 =>
      rw [List.take_succ_cons, List.take_zero] at h3
      cases h3
      exact h1
  · intro h
    exact ⟨_, List.mem_filter.mpr ⟨h, decide_eq_true rfl⟩, rfl⟩
theorem belE_ap {c : Nat} {ends : List (List Nat × Nat)} (h : ends.Pairwise fun a b => ¬ a.1 <+: b.1 ∧ ¬ b.1 <+: a.1) : (belE c ends).Pairwise fun a b => ¬ a.1 <+: b.1 ∧ ¬ b.1 <+: a.1 := by
  unfold belE
  refine List.pairwise_map.mpr ?_
  have h2 := List.Pairwise.sublist (List.filter_sublist (p := fun e => decide (e.1.take 1 = [c]))) h
  refine h2.imp_of_mem fun {x y} hx hy hxy => ?_
  have key : ∀ {e : List Nat × Nat}, e ∈ ends.filter (fun e => decide (e.1.take 1 = [c])) → e.1 = c :: e.1.drop 1 := fun {e} he => by
    have h3 : e.1.take 1 = [c] := of_decide_eq_true (List.mem_filter.mp he).2
    have := List.take_append_drop 1 e.1
    rw [h3] at this
    exact this.symm
  have ex := key hx
  have ey := key hy
  refine ⟨fun z => hxy.1 ?_, fun z => hxy.2 ?_⟩
  · rw [ex, ey]
    exact List.cons_prefix_cons.mpr ⟨rfl, z⟩
  · rw [ex, ey]
    exact List.cons_prefix_cons.mpr ⟨rfl, z⟩
/-- what is below a sign: nothing, one end, or a tree again -/
theorem EOk.bel {cs : List Nat} {k : Nat} {b : List Nat} {ends : List (List Nat × Nat)} (h : EOk cs (k + 1) b ends) (c : Nat) : belE c ends = [] ∨ (∃ n, belE c ends = [([], n)]) ∨ (belE c ends ≠ [] ∧ EOk cs k (b ++ [c]) (belE c ends)) := by
  have ap := belE_ap (c := c) h.ap
  have mem : ∀ e ∈ belE c ends, (c :: e.1, e.2) ∈ ends := fun e he => belE_mem.mp he
  by_cases e0 : belE c ends = []
  · exact .inl e0
  · by_cases h1 : ∀ e ∈ belE c ends, e.1 ≠ []
    · refine .inr (.inr ⟨e0, h1, fun e he d hd => h.cod _ (mem e he) d (List.mem_cons_of_mem _ hd), fun e he => ?_, fun e he => ?_, ap⟩)
      · have := h.len _ (mem e he)
        rw [List.length_cons] at this
        omega
      · have := h.tot _ (mem e he)
        rw [List.length_cons] at this
        rw [List.length_append, List.length_singleton]
        omega
    · have : ∃ e ∈ belE c ends, e.1 = [] := by
        refine Classical.byContradiction fun z => h1 fun e he e1 => z ⟨e, he, e1⟩
      obtain ⟨e, he, e1⟩ := this
      refine .inr (.inl ⟨e.2, ?_⟩)
      generalize belE c ends = l at *
      match l, he, ap with
      | [a], he, _ =>
        rw [List.mem_singleton.mp he] at e1 ⊢
        obtain ⟨w, n⟩ := a
        rw [show w = [] from e1]
      | a :: d :: l, he, ap =>
        rw [List.pairwise_cons] at ap
        exfalso
        rcases List.mem_cons.mp he with z | z
        · have := (ap.1 d List.mem_cons_self).1
          rw [← z, e1] at this
          exact this List.nil_prefix
        · have := (ap.1 e z).2
          rw [e1] at this
          exact this List.nil_prefix
theorem part_perm {α : Type} (h : α → Nat) : ∀ (cs : List Nat) (l : List α), cs.Nodup → (∀ e ∈ l, h e ∈ cs) → (cs.flatMap fun c => l.filter fun e => decide (h e = c)).Perm l
  | [], l, _, hl => by
    cases l with
    | nil => exact .nil
    | cons a l => exact absurd (hl a List.mem_cons_self) (by simp)
  | c :: cs, l, nd, hl => by
    rw [List.nodup_cons] at nd
    have ih := part_perm h cs (l.filter fun e => !decide (h e = c)) nd.2 fun e he => by
      obtain ⟨h1, h2⟩ := List.mem_filter.mp he
      rcases List.mem_cons.mp (hl e h1) with z | z
      · rw [decide_eq_true z] at h2; cases h2
      · exact z
    have e1 : (cs.flatMap fun d => (l.filter fun e => !decide (h e = c)).filter fun e => decide (h e = d)) = cs.flatMap fun d => l.filter fun e => decide (h e = d) := by
      rw [List.flatMap_def, List.flatMap_def]
      congr 1
      refine List.map_congr_left fun d hd => ?_
      rw [List.filter_filter]
      refine List.filter_congr fun e _ => ?_
      by_cases z : h e = d
      · have : ¬ h e = c := fun y => nd.1 (by rw [← y, z]; exact hd)
        rw [decide_eq_true z, decide_eq_false this]
        rfl
      · rw [decide_eq_false z]
        rfl
    rw [e1] at ih
    rw [List.flatMap_cons]
    exact (List.Perm.append_left _ ih).trans (List.filter_append_perm _ l)
theorem lvT_perm {cs : List Nat} (nd : cs.Nodup) : ∀ (k : Nat) (b : List Nat) (ends : List (List Nat × Nat)), EOk cs k b ends → (lvT cs k b ends).Perm (ends.map fun e => (e.2, b ++ e.1))
  | 0, b, ends, h => by
    cases ends with
    | nil => exact .nil
    | cons e l => exact absurd (h.len e List.mem_cons_self) (by omega)
  | k + 1, b, ends, h => by
    have one : ∀ c, (lvB (lvT cs k) b c (belE c ends)).Perm ((belE c ends).map fun e => (e.2, (b ++ [c]) ++ e.1)) := fun c => by
      rcases h.bel c with e | ⟨n, e⟩ | ⟨ne, ok⟩
      · rw [e]; exact .nil
      · rw [e]
        show [(n, b ++ [c])].Perm [(n, (b ++ [c]) ++ [])]
        rw [List.append_nil]
      · have e : lvB (lvT cs k) b c (belE c ends) = lvT cs k (b ++ [c]) (belE c ends) := by
          have h1 := ok.ne
          generalize belE c ends = l at *
          match l, ne, h1 with
          | [(x :: y, n)], _, _ => rfl
          | ([], n) :: _, _, h1 => exact absurd rfl (h1 _ List.mem_cons_self)
          | (x :: y, n) :: a :: l, _, _ => rfl
        rw [e]
        exact lvT_perm nd k (b ++ [c]) _ ok
    have two : ∀ c, ((belE c ends).map fun e => (e.2, (b ++ [c]) ++ e.1)) = (ends.filter fun e => decide (e.1.headD 0 = c)).map fun e => (e.2, b ++ e.1) := fun c => by
      unfold belE
      rw [List.map_map]
      have f1 : (ends.filter fun e => decide (e.1.take 1 = [c])) = ends.filter fun e => decide (e.1.headD 0 = c) := List.filter_congr fun e he => by
        have := h.ne e he
        match e, this with
        | (x :: y, n), _ =>
          show decide ([x] = [c]) = decide (x = c)
          by_cases z : x = c
          · subst z; simp
          · simp [z]
      rw [f1]
      refine List.map_congr_left fun e he => ?_
      obtain ⟨h1, h2⟩ := List.mem_filter.mp he
      have := h.ne e h1
      match e, this, h2 with
      | (x :: y, n), _, h2 =>
        have h3 : x = c := of_decide_eq_true h2
        subst h3
        show (n, (b ++ [x]) ++ y) = (n, b ++ x :: y)
        rw [List.append_assoc]
        rfl
    have three : (cs.flatMap fun c => lvB (lvT cs k) b c (belE c ends)).Perm (cs.flatMap fun c => (ends.filter fun e => decide (e.1.headD 0 = c)).map fun e => (e.2, b ++ e.1)) := by
      have key : ∀ l : List Nat, (l.flatMap fun c => lvB (lvT cs k) b c (belE c ends)).Perm (l.flatMap fun c => (ends.filter fun e => decide (e.1.headD 0 = c)).map fun e => (e.2, b ++ e.1)) := fun l => by
        induction l with
        | nil => exact .nil
        | cons c l ih =>
          rw [List.flatMap_cons, List.flatMap_cons]
          have o := one c
          rw [two] at o
          exact o.append ih
      exact key cs
    refine three.trans ?_
    have e4 : (cs.flatMap fun c => (ends.filter fun e => decide (e.1.headD 0 = c)).map fun e => (e.2, b ++ e.1)) = (cs.flatMap fun c => ends.filter fun e => decide (e.1.headD 0 = c)).map fun e => (e.2, b ++ e.1) := by rw [List.map_flatMap]
    rw [e4]
    refine (part_perm _ cs ends nd fun e he => ?_).map _
    have h1 := h.ne e he
    have h2 := h.cod e he
    match e, h1, h2 with
    | (x :: y, n), _, h2 => exact h2 x List.mem_cons_self
theorem lvB_eq {cs : List Nat} {k : Nat} {b : List Nat} {c : Nat} {l : List (List Nat × Nat)} (ne : l ≠ []) (h1 : ∀ e ∈ l, e.1 ≠ []) : lvB (lvT cs k) b c l = lvT cs k (b ++ [c]) l := by
  match l, ne, h1 with
  | [(x :: y, n)], _, _ => rfl
  | ([], n) :: _, _, h1 => exact absurd rfl (h1 _ List.mem_cons_self)
  | (x :: y, n) :: a :: l, _, _ => rfl
theorem grB_eq {cs : List Nat} {k : Nat} {c : Nat} {l : List (List Nat × Nat)} (ne : l ≠ []) (h1 : ∀ e ∈ l, e.1 ≠ []) : grB (grT cs k) c l = [.tup [.str (txt [c]), .lst (grT cs k l)]] := by
  match l, ne, h1 with
  | [(x :: y, n)], _, _ => rfl
  | ([], n) :: _, _, h1 => exact absurd rfl (h1 _ List.mem_cons_self)
  | (x :: y, n) :: a :: l, _, _ => rfl
theorem belE_num {c : Nat} {ends : List (List Nat × Nat)} {n : Nat} (h : n ∈ (belE c ends).map (·.2)) : n ∈ ends.map (·.2) := by
  obtain ⟨e, he, rfl⟩ := List.mem_map.mp h
  exact List.mem_map.mpr ⟨_, belE_mem.mp he, rfl⟩
end Du

namespace Du
open PySem PySem.Spec PyProof.Rows L2 Dear
/-! ### k15: reading a tree tells its leaves -/
set_option maxHeartbeats 400000
theorem dIn_lett {T : Tg} {c : Nat} (hc : c ∈ T.codes) : dIn true (.str (txt [c])) (lettD T.codes) = .ok (.bl false) := by
  have e : lettD T.codes = .lst ((T.codes.map fun c => [c]).map fun v => .str (txt v)) := by rw [List.map_map]; rfl
  rw [e, dIn_txts, decide_eq_true (List.mem_map.mpr ⟨c, hc, rfl⟩)]
  rfl
theorem rd_loop {T : Tg} (h : Good T) {k : Nat} {b : List Nat} {ends : List (List Nat × Nat)} (ok : EOk T.codes (k + 1) b ends) (inj : ∀ e ∈ ends, ∀ e' ∈ ends, e.2 = e'.2 → e = e') {rec : List D → Res (D × D)} (thing : D)
    (hrec : ∀ (c : Nat) (fv : List (D × D)), belE c ends ≠ [] → EOk T.codes k (b ++ [c]) (belE c ends) → (∀ n ∈ (belE c ends).map (·.2), ∀ p ∈ fv, p.1 ≠ .int (n : Nat)) → fv.length + (belE c ends).length ≤ 1000 →
      rec [lettD T.codes, .lst (grT T.codes k (belE c ends)), .str (txt (b ++ [c])), .dct false fv] = .ok (.bl true, .dct false (fv ++ (lvT T.codes k (b ++ [c]) (belE c ends)).map leafD))) (hb : b.length ≤ 100) :
    ∀ (l done : List Nat) (fv : List (D × D)) (last : Int), done ++ l = T.codes → (last = -1 ∨ ∃ c' ∈ done, last = (T.rk c' : Nat)) → (∀ c ∈ l, ∀ n ∈ (belE c ends).map (·.2), ∀ p ∈ fv, p.1 ≠ .int (n : Nat)) → fv.length + (l.map fun c => (belE c ends).length).sum ≤ 1000 →
      ∃ last', forL (tgN 5) (B__law_read_1 rec) [5] (l.flatMap fun c => grB (grT T.codes k) c (belE c ends)) (rdS (lettD T.codes) thing b fv last none) = .nx (rdS (lettD T.codes) thing b (fv ++ (l.flatMap fun c => lvB (lvT T.codes k) b c (belE c ends)).map leafD) last' none)
  | [], done, fv, last, _, _, _, _ => ⟨last, by rw [List.flatMap_nil, List.flatMap_nil, List.map_nil, List.append_nil]; rfl⟩
  | c :: l, done, fv, last, e, hl, hn, hf => by
    have hc : c ∈ T.codes := by rw [← e]; simp
    have nd : T.codes.Nodup := h.nd
    rw [List.map_cons, List.sum_cons] at hf
    have e2 : (done ++ [c]) ++ l = T.codes := by rw [List.append_assoc]; exact e
    have rkl : last < (T.rk c : Nat) := by
      rcases hl with z | ⟨c', hc', z⟩
      · rw [z]; omega
      · have := rk_lt nd
        rw [← e, List.pairwise_append] at this
        have := this.2.2 c' hc' c List.mem_cons_self
        rw [z]
        omega
    have hin := dIn_lett hc
    have hix := index_e hc
    -- numbers of other signs are others
    have apart : ∀ d ∈ l, ∀ n ∈ (belE d ends).map (·.2), ∀ m ∈ (belE c ends).map (·.2), n ≠ m := fun d hd n hn m hm z => by
      obtain ⟨x, hx, rfl⟩ := List.mem_map.mp hn
      obtain ⟨y, hy, rfl⟩ := List.mem_map.mp hm
      have := inj _ (belE_mem.mp hx) _ (belE_mem.mp hy) z
      rw [Prod.mk.injEq, List.cons.injEq] at this
      rw [← e, List.nodup_append, List.nodup_cons] at nd
      exact nd.2.1.1 (by rw [← this.1.1]; exact hd)
    rw [List.flatMap_cons, List.flatMap_cons]
    rcases ok.bel c with e0 | ⟨n, e0⟩ | ⟨ne, ok'⟩
    · rw [e0]
      obtain ⟨last', ih⟩ := rd_loop h ok inj thing hrec hb l (done ++ [c]) fv last e2 (hl.imp id fun ⟨c', hc', z⟩ => ⟨c', List.mem_append_left _ hc', z⟩) (fun d hd => hn d (List.mem_cons_of_mem _ hd)) (by omega)
      exact ⟨last', ih⟩
    · have n1 : n ∈ (belE c ends).map (·.2) := by rw [e0]; exact List.mem_singleton.mpr rfl
      have nn := hn c List.mem_cons_self n n1
      obtain ⟨last', ih⟩ := rd_loop h ok inj thing hrec hb l (done ++ [c]) (fv ++ [leafD (n, b ++ [c])]) (T.rk c : Nat) e2 (.inr ⟨c, by simp, rfl⟩) (fun d hd m hm p hp => by
        rcases List.mem_append.mp hp with hp | hp
        · exact hn d (List.mem_cons_of_mem _ hd) m hm p hp
        · rw [List.mem_singleton.mp hp]
          exact fun z => apart d hd m hm n n1 (Int.ofNat.inj (D.int.inj z)).symm) (by rw [List.length_append, List.length_singleton]; rw [e0] at hf; simp only [List.length_cons, List.length_nil] at hf; omega)
      refine ⟨last', ?_⟩
      rw [e0]
      have bd := rd_leaf (rec := rec) (thing := thing) (b := b) (fv := fv) (n := n) hin hix rfl rkl hb nn (by omega)
      show forL _ _ _ (.tup [.str (txt [c]), .int (n : Nat)] :: _) _ = _
      rw [forL_cons, tgN_e, forT_ok]
      show forK _ _ _ _ (B__law_read_1 rec (rdS (lettD T.codes) thing b fv last (some (.frz (.tup [.str (txt [c]), .int (n : Nat)]))))) = _
      rw [bd, forK_nx]
      refine Eq.trans ih ?_
      rw [List.append_assoc]
      rfl
    · have nn := hn c List.mem_cons_self
      have hr := hrec c fv ne ok' nn (by omega)
      have lp := lvT_perm nd k (b ++ [c]) _ ok'
      have ll : (lvT T.codes k (b ++ [c]) (belE c ends)).length = (belE c ends).length := by rw [lp.length_eq, List.length_map]
      obtain ⟨last', ih⟩ := rd_loop h ok inj thing hrec hb l (done ++ [c]) (fv ++ (lvT T.codes k (b ++ [c]) (belE c ends)).map leafD) (T.rk c : Nat) e2 (.inr ⟨c, by simp, rfl⟩) (fun d hd m hm p hp => by
        rcases List.mem_append.mp hp with hp | hp
        · exact hn d (List.mem_cons_of_mem _ hd) m hm p hp
        · obtain ⟨q, hq, rfl⟩ := List.mem_map.mp hp
          obtain ⟨x, hx, rfl⟩ := List.mem_map.mp (lp.mem_iff.mp hq)
          exact fun z => apart d hd m hm x.2 (List.mem_map.mpr ⟨x, hx, rfl⟩) (Int.ofNat.inj (D.int.inj z)).symm) (by rw [List.length_append, List.length_map, ll]; omega)
      refine ⟨last', ?_⟩
      rw [grB_eq ne ok'.ne, lvB_eq ne ok'.ne]
      have bd := rd_node (rec := rec) (thing := thing) (b := b) (fv := fv) hin hix rfl rkl hb rfl hr
      show forL _ _ _ (.tup [.str (txt [c]), .lst (grT T.codes k (belE c ends))] :: _) _ = _
      rw [forL_cons, tgN_e, forT_ok]
      show forK _ _ _ _ (B__law_read_1 rec (rdS (lettD T.codes) thing b fv last (some (.frz (.tup [.str (txt [c]), .lst (grT T.codes k (belE c ends))]))))) = _
      rw [bd, forK_nx]
      refine Eq.trans ih ?_
      rw [List.append_assoc, List.map_append]
theorem grT_ne {cs : List Nat} {k : Nat} {b : List Nat} {ends : List (List Nat × Nat)} (ok : EOk cs (k + 1) b ends) (ne : ends ≠ []) : grT cs (k + 1) ends ≠ [] := by
  obtain ⟨e, he⟩ := List.exists_mem_of_ne_nil _ ne
  have h1 := ok.ne e he
  have h2 := ok.cod e he
  obtain ⟨w, n⟩ := e
  match w, h1, h2, he with
  | x :: y, _, h2, he =>
    intro z
    have := List.flatMap_eq_nil_iff.mp z x (h2 x List.mem_cons_self)
    have m : (y, n) ∈ belE x ends := belE_mem.mpr he
    generalize belE x ends = l at *
    match l, m, this with
    | [([], _)], _, this => cases this
    | [(_ :: _, _)], _, this => cases this
    | ([], _) :: _ :: _, _, this => cases this
    | (_ :: _, _) :: _ :: _, _, this => cases this
theorem grT_ly {cs : List Nat} (hc : ∀ c ∈ cs, c < 128) : ∀ (k : Nat) (ends : List (List Nat × Nat)), Ly (2 * k + 1) (.lst (grT cs k ends))
  | 0, _ => .lst forall_nil
  | k + 1, ends => by
    have key : ∀ d ∈ grT cs (k + 1) ends, Ly (2 * k + 2) d := fun d hd => by
      obtain ⟨c, hcc, hd⟩ := List.mem_flatMap.mp hd
      have ac : Asc [c] := fun x hx => by rw [List.mem_singleton.mp hx]; exact hc c hcc
      have ih := grT_ly hc k (belE c ends)
      have a1 : ∀ n : Nat, Ly (2 * k + 2) (.tup [.str (txt [c]), .int (n : Nat)]) := fun n => .tup (forall_cons (.txt ac) (forall_cons .int forall_nil))
      have a2 : Ly (2 * k + 2) (.tup [.str (txt [c]), .lst (grT cs k (belE c ends))]) := .tup (forall_cons (.txt ac) (forall_cons ih forall_nil))
      generalize belE c ends = l at *
      match l, hd, a2 with
      | [([], n)], hd, _ => rw [List.mem_singleton.mp hd]; exact a1 n
      | [(_ :: _, _)], hd, a2 => rw [List.mem_singleton.mp hd]; exact a2
      | ([], _) :: _ :: _, hd, a2 => rw [List.mem_singleton.mp hd]; exact a2
      | (_ :: _, _) :: _ :: _, hd, a2 => rw [List.mem_singleton.mp hd]; exact a2
    exact .lst key
theorem read_e {T : Tg} (h : Good T) : ∀ (k : Nat) (b : List Nat) (ends : List (List Nat × Nat)) (fv : List (D × D)), k ≤ 20 → EOk T.codes k b ends → ends ≠ [] → (∀ e ∈ ends, ∀ e' ∈ ends, e.2 = e'.2 → e = e') → (∀ n ∈ ends.map (·.2), ∀ p ∈ fv, p.1 ≠ .int (n : Nat)) → fv.length + ends.length ≤ 1000 →
    F__law_read k [lettD T.codes, .lst (grT T.codes k ends), .str (txt b), .dct false fv] = .ok (.bl true, .dct false (fv ++ (lvT T.codes k b ends).map leafD))
  | 0, b, ends, fv, _, ok, ne, _, _, _ => by
    obtain ⟨e, he⟩ := List.exists_mem_of_ne_nil _ ne
    exact absurd (ok.len e he) (by omega)
  | k + 1, b, ends, fv, hk, ok, ne, inj, hn, hf => by
    have b8 : b.length ≤ 8 := by
      obtain ⟨e, he⟩ := List.exists_mem_of_ne_nil _ ne
      have := ok.tot e he
      omega
    have parts : (T.codes.map fun c => (belE c ends).length).sum = ends.length := by
      have p := part_perm (fun e : List Nat × Nat => e.1.headD 0) T.codes ends h.nd fun e he => by
        have h1 := ok.ne e he
        have h2 := ok.cod e he
        match e, h1, h2 with
        | (x :: y, n), _, h2 => exact h2 x List.mem_cons_self
      have e1 := p.length_eq
      rw [List.length_flatMap] at e1
      rw [← e1]
      congr 1
      refine List.map_congr_left fun c _ => ?_
      unfold belE
      rw [List.length_map]
      congr 1
      refine List.filter_congr fun e he => ?_
      have := ok.ne e he
      match e, this with
      | (x :: y, n), _ =>
        show decide ([x] = [c]) = decide (x = c)
        by_cases z : x = c
        · subst z; simp
        · simp [z]
    obtain ⟨last', e1⟩ := rd_loop h ok inj (rec := F__law_read k) (.lst (grT T.codes (k + 1) ends)) (fun c fv ne' ok' hn' hf' => read_e h k (b ++ [c]) (belE c ends) fv (by omega) ok' ne' (fun e he e' he' z => by
        have := inj _ (belE_mem.mp he) _ (belE_mem.mp he') z
        rw [Prod.mk.injEq, List.cons.injEq] at this
        obtain ⟨x, n⟩ := e
        obtain ⟨y, m⟩ := e'
        rw [Prod.mk.injEq]
        exact ⟨this.1.2, this.2⟩) hn' hf') (by omega) T.codes [] fv (-1) rfl (.inl rfl) (fun c _ n hn' => hn n (belE_num hn')) (by rw [parts]; exact hf)
    show outIO 3 (B__law_read (F__law_read k) [some (.frz (lettD T.codes)), some (.frz (.lst (grT T.codes (k + 1) ends))), some (.frz (.str (txt b))), some (.own true (.dct false fv)), none, none]) = _
    have gne : ∃ x y, grT T.codes (k + 1) ends = x :: y := by
      have := grT_ne ok ne
      cases e : grT T.codes (k + 1) ends with
      | nil => exact absurd e this
      | cons x y => exact ⟨x, y, rfl⟩
    have hly : lay (.lst (grT T.codes (k + 1) ends)) = true := by
      exact (grT_ly (fun c hc => by
        obtain ⟨r, hr, rfl⟩ := List.mem_map.mp hc
        have := (h.row r hr).hi
        omega) (k + 1) ends).lay (by omega)
    have t2 : dEq (.lst (grT T.codes (k + 1) ends)) (.lst []) = .ok (.bl false) := by
      obtain ⟨x, y, exy⟩ := gne
      rw [dEq_of hly ((Ly.lst (n := 0) forall_nil).lay (by decide)), pyEq_nil, exy]
      rfl
    have t3 : dLen [.str (txt b)] = .ok (.int (b.length : Nat)) := by simp [txt_length, show b.length ≤ 16777215 by omega]
    have t4 : ¬ (8 : Int) < (b.length : Int) := by omega
    have : B__law_read (F__law_read k) [some (.frz (lettD T.codes)), some (.frz (.lst (grT T.codes (k + 1) ends))), some (.frz (.str (txt b))), some (.own true (.dct false fv)), none, none] = .rt (.bl true) (rdS (lettD T.codes) (.lst (grT T.codes (k + 1) ends)) b (fv ++ (lvT T.codes (k + 1) b ends).map leafD) last' none) := by
      rw [B__law_read_u]
      refine seq_to (ρ' := [some (.frz (lettD T.codes)), some (.frz (.lst (grT T.codes (k + 1) ends))), some (.frz (.str (txt b))), some (.own true (.dct false fv)), none, none]) (by
        have k1 : isKind "list" (.lst (grT T.codes (k + 1) ends)) = .ok (.bl true) := rfl
        generalize D.lst (grT T.codes (k + 1) ends) = gd at *
        generalize lettD T.codes = nm at *
        simp [k1, t2, t3, t4]) ?_
      refine seq_to (ρ' := rdS (lettD T.codes) (.lst (grT T.codes (k + 1) ends)) b fv (-1) none) (by
        unfold rdS
        generalize D.lst (grT T.codes (k + 1) ends) = gd at *
        generalize lettD T.codes = nm at *
        simp) ?_
      refine seq_to (for_to (ds := grT T.codes (k + 1) ends) (ρ' := rdS (lettD T.codes) (.lst (grT T.codes (k + 1) ends)) b fv (-1) none) rfl rfl e1) ?_
      unfold rdS
      generalize D.lst (grT T.codes (k + 1) ends) = gd at *
      generalize lettD T.codes = nm at *
      simp
      rfl
    rw [this]
    rfl
end Du

namespace Du
open PySem PySem.Spec PyProof.Rows L2 Dear
set_option maxHeartbeats 400000
/-! ### a tree's lists are emptied -/
/-- H is R, but some of R's lists are empty -/
def NcH (R H : Hp) : Prop := ∀ a o, R a = some o → H a = some o ∨ ∃ xs, o = .lst xs ∧ H a = some (.lst [])
/-- H' is H, but some of R's lists are empty -/
def EmH (R H H' : Hp) : Prop := ∀ a, H' a = H a ∨ ((∃ xs, R a = some (.lst xs)) ∧ H' a = some (.lst []))
theorem EmH.refl (R H : Hp) : EmH R H H := fun _ => .inl rfl
theorem EmH.trans {R H H1 H2 : Hp} (a : EmH R H H1) (b : EmH R H1 H2) : EmH R H H2 := fun x => by
  rcases b x with h | h
  · rw [h]; exact a x
  · exact .inr h
theorem NcH.em {R H H' : Hp} (n : NcH R H) (e : EmH R H H') : NcH R H' := fun a o h => by
  rcases e a with h1 | ⟨⟨xs, h1⟩, h2⟩
  · rw [h1]; exact n a o h
  · rw [h] at h1
    cases h1
    exact .inr ⟨xs, rfl, h2⟩
def TrD : Nat → List D → Prop
  | 0, _ => False
  | N + 1, ds => ∀ d ∈ ds, ∃ s e, d = .tup [.str s, e] ∧ ((∃ i : Nat, e = .int (i : Nat)) ∨ ∃ es, e = .lst es ∧ TrD N es)
def spEm (K : PySem.W.Frag) (N : Nat) : Sp := fun vs H Q _ => ∃ (v : V) (R : Hp) (ds : List D), vs = [v] ∧ Dt K R v (.lst ds) ∧ TrD N ds ∧ NcH R H ∧ ∀ H', EmH R H H' → Q .non H'
section
variable {P : Program} {w : World} {K : PySem.W.Frag} {mg : Str → Option Value} {base : Heap}
theorem o__law_empty (T : Txt K mg) : ∀ N, OkF P w K mg base CX0 (N + 1) "_law_empty" ["_law_thing"] (spEm K N)
  | 0 => by
    refine T.f__law_empty.ok c__law_empty (fun vs H Q E h => ?_) (fun f cdv A outer s H vs Q E hr h => ?_)
    · obtain ⟨_, _, _, _, _, h1, _⟩ := h
      exact h1.elim
    · obtain ⟨_, _, _, _, _, h1, _⟩ := h
      exact h1.elim
  | N + 1 => by
    have ih := o__law_empty T N
    refine T.f__law_empty.ok c__law_empty (fun vs H Q E h => ?_) (fun f cdv A outer s H vs Q E hr h => ?_)
    · obtain ⟨_, _, _, rfl, _⟩ := h
      rfl
    · obtain ⟨v, R, ds, rfl, dv, tr, nc, Z⟩ := h
      obtain ⟨a, xs, rfl, ha, dxs⟩ := dv.lstE
      refine ⟨_, (pss_cons (ps_for PassesOwn.never rfl (pi_list_k K (pv 0)) (pg_tup_k K (n := 2) rfl (pgs_cons (pg_name (i := 1) c__law_empty.nd rfl (Or.inl rfl)) (pgs_cons (pg_name (i := 2) c__law_empty.nd rfl (Or.inl rfl)) pgs_nil)))
(pss_one (ps_if (pt_val (pe_callB (call_isi_k K) (by rfl) T.b_isinstance (by decide +kernel) (pa_cons (pv 2) (pa_cons (pe_bltn (v := .ty "list") (by rfl) T.b_list (by decide +kernel) rfl) pa_nil))))
(pss_one (ps_expr (pe_c (hk := Nat.le_refl _) ih hr (pa_cons (pv 2) pa_nil))))
pss_nil)))
(pss_one (ps_expr (pe_bm0 PySem.F.plainAttrs_list PySem.F.slot_list_clear PySem.F.type_list_clear mt_clear (pv 0))))), ?_⟩
      have cell : ∀ {Hc : Hp}, NcH R Hc → Hc a = some (.lst xs) ∨ Hc a = some (.lst []) := fun {Hc} n => by
        rcases n a _ ha with h | ⟨ys, _, h⟩
        · exact .inl h
        · exact .inr h
      have cl : ∀ {Hc : Hp}, NcH R Hc → ∃ ys, Hc a = some (.lst ys) := fun {Hc} n => (cell n).elim (fun h => ⟨_, h⟩) fun h => ⟨_, h⟩
      obtain ⟨ys0, hy0⟩ := cl nc
      refine ⟨_, rfl, a, rfl, ⟨ys0, SqL.of hy0⟩, ?_⟩
      refine ⟨fun i m σ Hc => m = xs.length - i ∧ i ≤ xs.length ∧ (∃ x1 x2, σ = [some (.ref a), x1, x2]) ∧ EmH R H Hc, ⟨xs.length, by simp, Nat.zero_le _, ⟨_, _, rfl⟩, .refl _ _⟩, ?_⟩
      rintro i m σ Hc ⟨rfl, hi, ⟨x1, x2, rfl⟩, em⟩
      have ncc := nc.em em
      have fin : Ends.nx { nx := fun σ H' => ∃ v, σ[0]? = some (some v) ∧ tyV K "list" v H' ∧ rClear v [] H' fun _ H2 => Q .non H2, rt := Q } [some (.ref a), x1, x2] Hc := by
        obtain ⟨ys, hy⟩ := cl ncc
        refine ⟨_, rfl, .inl ⟨rfl, _, SqL.of hy⟩, a, ys, rfl, rfl, hy, Z _ fun b => ?_⟩
        by_cases e : b = a
        · subst e
          exact .inr ⟨⟨xs, ha⟩, upd_same⟩
        · rw [upd_ne e]
          exact em b
      rcases cell ncc with hc | hc
      · by_cases hlt : i < xs.length
        · refine .inr ⟨⟨xs, xs[i], SqL.of hc, List.getElem?_eq_getElem hlt⟩, fun σ' H' => (∃ x1 x2, σ' = [some (.ref a), x1, x2]) ∧ EmH R H H', fun σ' H' h => ⟨xs.length - (i + 1), by omega, rfl, hlt, h.1, h.2⟩, fun x H' hx => ?_⟩
          obtain ⟨rfl, hx⟩ := hx
          have hx := hx xs (SqL.of hc)
          obtain ⟨d, hd, dx⟩ := dxs.get hx
          obtain ⟨s, e, rfl, he⟩ := tr d (List.mem_of_getElem? hd)
          obtain ⟨q, zs, rfl, hq, dz⟩ := dx.tupS
          obtain ⟨u1, u2, rfl, du1, du2⟩ := dz.two
          have := du1.strE
          subst this
          have hq' : H' q = some (.tup [.str s, u2]) := by
            rcases ncc q _ hq with h | ⟨_, z, _⟩
            · exact h
            · cases z
          refine ⟨q, _, rfl, SqT.of hq', rfl, _, _, rfl, _, _, rfl, rfl, ?_⟩
          rcases he with ⟨n, rfl⟩ | ⟨es, rfl, tre⟩
          · have := du2.intE
            subst this
            refine ⟨_, rfl, _, _, _, _, _, rfl, .ty _, .base (.int _), kit_kind (d := .int 0) tn_list (fun _ => nofun) (fun _ _ => nofun), ?_⟩
            refine ⟨_, rfl, iteF ?_⟩
            exact ⟨⟨_, _, rfl⟩, em⟩
          · obtain ⟨p, ps, rfl, hp, dps⟩ := du2.lstE
            have hpl : ∃ ys, H' p = some (.lst ys) := by
              rcases ncc p _ hp with h | ⟨ys, _, h⟩
              · exact ⟨_, h⟩
              · exact ⟨_, h⟩
            obtain ⟨ys, hys⟩ := hpl
            refine ⟨_, rfl, _, _, _, _, _, rfl, .ty _, .base (.lst hys), kit_kind (d := .lst []) tn_list (fun _ => nofun) (fun _ _ => nofun), ?_⟩
            refine ⟨_, rfl, iteT ?_⟩
            refine ⟨_, rfl, _, R, es, rfl, .lst hp dps, tre, ncc, fun H2 e2 => ?_⟩
            exact ⟨⟨_, _, rfl⟩, em.trans e2⟩
        · refine .inl ⟨⟨xs, SqL.of hc, by omega⟩, ?_⟩
          exact fin
      · refine .inl ⟨⟨[], SqL.of hc, Nat.zero_le _⟩, ?_⟩
        exact fin

theorem putK_new {kvs : List (Key × V)} {k : Key} {v : V} (h : ∀ p ∈ kvs, p.1 ≠ k) : L2.putK kvs k v = kvs ++ [(k, v)] := by
  unfold L2.putK
  rw [if_neg]
  intro z
  obtain ⟨p, hp, e⟩ := List.any_eq_true.mp z
  exact h p hp (of_decide_eq_true e)
theorem mergeK_new : ∀ (kvs acc : List (Key × V)), (∀ p ∈ acc, ∀ q ∈ kvs, p.1 ≠ q.1) → (kvs.map (·.1)).Nodup → L2.mergeK acc kvs = acc ++ kvs
  | [], acc, _, _ => (List.append_nil acc).symm
  | q :: kvs, acc, h, nd => by
    rw [List.map_cons, List.nodup_cons] at nd
    show L2.mergeK (L2.putK acc q.1 q.2) kvs = _
    rw [putK_new fun p hp => h p hp q List.mem_cons_self, mergeK_new kvs _ (fun p hp r hr => ?_) nd.2, List.append_assoc]
    · rfl
    · rcases List.mem_append.mp hp with hp | hp
      · exact h p hp r (List.mem_cons_of_mem _ hr)
      · rw [List.mem_singleton.mp hp]
        exact fun z => nd.1 (by show q.1 ∈ _; rw [z]; exact List.mem_map.mpr ⟨r, hr, rfl⟩)
theorem valV_mem {kvs : List (Key × V)} (nd : (kvs.map (·.1)).Nodup) {p : Key × V} (hp : p ∈ kvs) : L2.valV kvs p.1 = some p.2 := by
  induction kvs with
  | nil => cases hp
  | cons q kvs ih =>
    rw [List.map_cons, List.nodup_cons] at nd
    unfold L2.valV
    rw [List.find?_cons]
    rcases List.mem_cons.mp hp with e | hp
    · subst e
      rw [decide_eq_true rfl]
      rfl
    · have : ¬ q.1 = p.1 := fun z => nd.1 (by rw [z]; exact List.mem_map.mpr ⟨p, hp, rfl⟩)
      rw [decide_eq_false this]
      exact ih nd.2 hp
abbrev numKV (e : List Nat × Nat) : Key × V := (.inl (e.2 : Nat), .str (txt e.1))
abbrev lfKV (p : Nat × List Nat) : Key × V := (.inl (p.1 : Nat), .str (txt p.2))
/-- pairs of a number and a text, as the list that dict is asked with -/
theorem num_ps {F H : Hp} (s : Same F H) : ∀ {xs : List V} {l : List (List Nat × Nat)}, DtAll K F xs (l.map fun e => .tup [.int (e.2 : Nat), .str (txt e.1)]) → ∃ ps : List Addr, xs = ps.map V.ref ∧ Paired (fun p kv => SqT K H p [kV kv.1, kv.2]) ps (l.map numKV)
  | _, [], h => by
    cases h
    exact ⟨[], rfl, .nil⟩
  | _, e :: l, h => by
    rw [List.map_cons] at h
    cases h with
    | cons a b =>
      obtain ⟨ps, rfl, pr⟩ := num_ps s b
      obtain ⟨q, zs, rfl, hq, dz⟩ := a.tupS
      obtain ⟨u, v, rfl, d1, d2⟩ := dz.two
      have := d1.intE
      have := d2.strE
      subst_vars
      exact ⟨q :: ps, rfl, .cons (SqT.of (s _ _ hq)) pr⟩
/-- what the dict holds behind the reading -/
theorem lf_kvs {F : Hp} : ∀ {kvs : List (Key × V)} {l : List (Nat × List Nat)}, DtAll K F (kvs.map (·.2)) ((l.map leafD).map (·.2)) → (l.map leafD).map (·.1) = kvs.map (fun p => keyD p.1) → kvs = l.map lfKV
  | [], [], _, _ => rfl
  | [], _ :: _, _, e => by simp at e
  | _ :: _, [], _, e => by simp at e
  | p :: kvs, q :: l, h, e => by
    simp only [List.map_cons] at h e
    cases h with
    | cons h1 h2 =>
      rw [List.cons.injEq] at e
      rw [lf_kvs h2 e.2, List.map_cons]
      congr 1
      obtain ⟨k, v⟩ := p
      have hv : v = .str (txt q.2) := h1.strE
      have hk : (.int (q.1 : Nat) : D) = keyD k := e.1
      cases k with
      | inl i =>
        have : ((q.1 : Nat) : Int) = i := D.int.inj hk
        rw [hv, ← this]
      | inr z => cases hk
structure TbOk (T : Tg) (W : List (List Nat)) : Prop where
  g : Good T
  n0 : W ≠ []
  n20 : W.length ≤ 20
  w0 : ∀ v ∈ W, v ≠ []
  len : ∀ v ∈ W, v.length ≤ 8
  cod : ∀ v ∈ W, ∀ c ∈ v, c ∈ T.codes
  ap : W.Pairwise fun a b => ¬ a <+: b ∧ ¬ b <+: a
theorem TbOk.eok {T : Tg} {W : List (List Nat)} (h : TbOk T W) : EOk T.codes 9 [] W.zipIdx := by
  have f : ∀ e ∈ W.zipIdx, e.1 ∈ W := fun e he => List.fst_mem_of_mem_zipIdx he
  refine ⟨fun e he => h.w0 _ (f e he), fun e he => h.cod _ (f e he), fun e he => by have := h.len _ (f e he); omega, fun e he => by have := h.len _ (f e he); show 0 + _ ≤ 8; omega, ?_⟩
  have e1 : W.zipIdx.map (·.1) = W := by rw [List.zipIdx_map_fst]
  have := h.ap
  rw [← e1] at this
  exact List.pairwise_map.mp this
theorem zip_inj {W : List (List Nat)} : ∀ e ∈ W.zipIdx, ∀ e' ∈ W.zipIdx, e.2 = e'.2 → e = e' := fun e he e' he' z => by
  have a := List.mem_zipIdx_iff_getElem?.mp he
  have b := List.mem_zipIdx_iff_getElem?.mp he'
  rw [z, b] at a
  cases e; cases e'
  have a := Option.some.inj a
  dsimp only at *
  rw [z, a]
theorem zip_nd {W : List (List Nat)} : ((W.zipIdx.map numKV).map (·.1)).Nodup := by
  rw [List.map_map]
  have e : ((fun p : Key × V => p.1) ∘ numKV) = fun e : List Nat × Nat => (Sum.inl (e.2 : Int) : Key) := rfl
  rw [e]
  have nd : (W.zipIdx.map (·.2)).Nodup := by
    rw [List.zipIdx_map_snd]
    exact List.nodup_range' ..
  have e2 : (W.zipIdx.map fun e : List Nat × Nat => (Sum.inl (e.2 : Int) : Key)) = (W.zipIdx.map (·.2)).map fun n : Nat => (Sum.inl (n : Int) : Key) := by rw [List.map_map]; rfl
  rw [e2]
  exact List.pairwise_map.mpr (nd.imp fun ne z => ne (Int.ofNat.inj (Sum.inl.inj z)))
open Classical in
noncomputable def F__law_right : List D → Res D := fun ds => if ∃ r : Tg × List (List Nat), TbOk r.1 r.2 ∧ ds = [r.1.d, txs r.2] then .ok (.bl true) else .bad
theorem grT_tr {cs : List Nat} : ∀ (k : Nat) (ends : List (List Nat × Nat)), TrD (k + 1) (grT cs k ends)
  | 0, _ => fun _ h => nomatch h
  | k + 1, ends => fun d hd => by
    obtain ⟨c, hc, hd⟩ := List.mem_flatMap.mp hd
    have ih := grT_tr (cs := cs) k (belE c ends)
    generalize belE c ends = l at *
    match l, hd, ih with
    | [([], n)], hd, _ => exact ⟨_, _, List.mem_singleton.mp hd, .inl ⟨n, rfl⟩⟩
    | [(_ :: _, _)], hd, ih => exact ⟨_, _, List.mem_singleton.mp hd, .inr ⟨_, rfl, ih⟩⟩
    | ([], _) :: _ :: _, hd, ih => exact ⟨_, _, List.mem_singleton.mp hd, .inr ⟨_, rfl, ih⟩⟩
    | (_ :: _, _) :: _ :: _, hd, ih => exact ⟨_, _, List.mem_singleton.mp hd, .inr ⟨_, rfl, ih⟩⟩
end
end Du

namespace Du
open PySem PySem.Spec PyProof.Rows L2 Dear
set_option maxHeartbeats 400000
section
variable {P : Program} {w : World} {K : PySem.W.Frag} {mg : Str → Option Value} {base : Heap}
theorem ok__law_right (T : Txt K mg) : OkF P w K mg base CX0 (11 + 1) "_law_right" ["_law_tongue_here", "_law_book"] (sp0 K F__law_right) := by
  have o_tree_of := o_tree_of (P := P) (w := w) (base := base) T
  have o__law_read := ok__law_read (P := P) (w := w) (base := base) T 9
  have o__law_empty := o__law_empty (P := P) (w := w) (base := base) T 10
  refine T.f__law_right.ok c__law_right (fun vs H Q E h => ?_) (fun f cdv A outer s H vs Q E hr h => ?_)
  · obtain ⟨ds, G, sG, hd, d, e, _⟩ := h
    unfold F__law_right at e
    split at e
    · rename_i z
      obtain ⟨r, _, rfl⟩ := z
      exact hd.length
    · cases e
  · obtain ⟨ds, F, sF, hd, d, e, Z⟩ := h
    unfold F__law_right at e
    split at e
    · rename_i z
      obtain ⟨⟨U, W⟩, tb, rfl⟩ := z
      cases e
      obtain ⟨v1, v2, rfl, d1, d2⟩ := hd.two
      dsimp only at tb d1 d2
      have h6 := tb.g.hi
      have n20 := tb.n20
      refine ⟨_, (pss_cons (ps_lcF (K := K) 2 [("_law_one", 7)] c__law_right.nd (fi_any (fe_ix (ix_A (K := K) (u1 hr.units)) opd_ix (fe_var 0) fe_int)) (fun _ _ _ _ _ => (fg_name 7 c__law_right.nd)) (fun _ _ _ _ _ => fts_nil) (fun _ _ _ _ _ => (fe_ix (ix_A (K := K) (u1 hr.units)) opd_ix (fe_var 7) fe_int)) (blkOk_by (own := [("_law_one", 7)]) (N := n__law_right) (sc := defScope s__law_right) (by decide +kernel)) (sw_true rfl rfl rfl (by decide +kernel)))
        (pss_cons (ps_for PassesOwn.never rfl (fi_range1 (K := K) (xm := none) T.b_range (fa_cons fe_int fa_nil) (h1 := len1)) (pg_name (i := 3) c__law_right.nd rfl (Or.inl rfl))
        (pss_cons (ps_set (i := 4) c__law_right.nd rfl (Or.inl rfl) (pe_callTy (call_list_of_k K) (by rfl) T.b_list (by decide +kernel) (pa_cons (pv 1) pa_nil)))
        (pss_cons (ps_set (i := 5) c__law_right.nd rfl (Or.inl rfl) (pe_c o_tree_of hr (pa_cons (pv 0) (pa_cons (pv 4) pa_nil))))
        (pss_cons (ps_set (i := 6) c__law_right.nd rfl (Or.inl rfl) pe_dnewK)
        (pss_cons (ps_if (PW.pt (pw_or (pt_not (pt_val (pe_c o__law_read hr (pa_cons (pv 2) (pa_cons (pv 5) (pa_cons pe_str (pa_cons (pv 6) pa_nil))))))) (pw_or1 (ft_cmp (K := K) (xm := none) (op_neA (K := K) hr.units) opd_ne gb_ne (fe_var 4) (fe_var 1)))))
        (pss_one (ps_ret pe_bl))
        pss_nil)
        (pss_cons (ps_if (pt_cmpR (op_ne_dictA (Nat.lt_of_le_of_lt (Nat.le_add_right _ _) hr.units)) (pv 6) (pe_callTy (call_dictP_k K rfl) (by rfl) T.b_dict (by decide +kernel) (pa_cons (fe_comp (K := K) (xm := none) [("_law_number", 8), ("_law_word", 9)] c__law_right.nd (fi_enum T.b_enumerate (fa_cons (fe_var 1) fa_nil) len1) (fun _ _ _ _ _ => (fg_tup (fgs_cons (fg_name 8 c__law_right.nd) (fgs_cons (fg_name 9 c__law_right.nd) fgs_nil)))) (fun _ _ _ _ _ => fts_nil) (fun _ _ _ _ _ => (fe_tup (fa_cons (fe_var 8) (fa_cons (fe_var 9) fa_nil)))) (blkOk_by (own := [("_law_number", 8), ("_law_word", 9)]) (N := n__law_right) (sc := defScope s__law_right) (by decide +kernel))) pa_nil)) (nomark _))
        (pss_one (ps_ret pe_bl))
        pss_nil)
        (pss_cons (ps_expr (pe_bm0 PySem.F.plainAttrs_list PySem.F.slot_list_clear PySem.F.type_list_clear mt_clear (pv 4)))
        (pss_one (ps_expr (pe_c o__law_empty hr (pa_cons (pv 5) pa_nil)))))))))))
        (pss_one (ps_ret pe_bl)))), ?_⟩
      have vw : ∀ {G : Hp} {x2 x3 x4 x5 x6 x7 x8 x9 : Option V}, Same F G → Vw K G [some v1, some v2, x2, x3, x4, x5, x6, x7, x8, x9] [some U.d, some (txs W), none, none, none, none, none, none, none, none] := fun s => vw_some (d1.same s) (vw_some (d2.same s) (vw_none (vw_none (vw_none (vw_none (vw_none (vw_none (vw_none (vw_none vw_nil)))))))))
      have c1 : eComp [7] (iAny (eOp dIx (eVar 0) (eC (.int 0)))) (tgN 7) bYes (eOp dIx (eVar 7) (eC (.int 0))) [some U.d, some (txs W), none, none, none, none, none, none, none, none] = .ok (lettD U.codes) := by
        unfold lettD Tg.codes
        rw [List.map_map]
        refine eComp_all (F := rowD) _ (by
          have d0 : dIx U.d (.int 0) = .ok (.lst (U.signs.map rowD)) := by simp [Tg.d]
          have it : dItems (.lst (U.signs.map rowD)) = .ok (U.signs.map rowD) := rfl
          generalize txs W = wd
          generalize U.d = td at *
          generalize U.signs.map rowD = sr at *
          simp [d0, it]) (by omega) fun r hr => ⟨_, rfl, by simp, ?_⟩
        generalize txs W = wd
        generalize U.d = td
        simp [rowD]
      refine ⟨F, _, sF, vw (.refl _), ?_⟩
      show Po _ _ _ _ _ _ (eComp [7] _ _ _ _ _) _
      rw [c1]
      intro v3 F1 H1 g1 d3
      have r2 : iRange (aCons (eC (.int 2)) aNil) [some U.d, some (txs W), none, none, none, none, none, none, none, none] = .ok ((List.range' 0 2).map fun i => .int (i : Nat)) := by
        rw [iRange_e]
        show bd dRange (.ok [.int ((2 : Nat) : Int)]) = _
        rw [bd_ok, rng_e 2 (by decide)]
      refine ⟨F1, _, g1.fh, vw g1.ff, ?_⟩
      rw [r2]
      intro J F2 H2 g2 y
      have g12 := g1.trans g2
      let P' : Nat → St → Hp → Prop := fun i σ Hc => (∃ x3 x4 x5 x6, σ = [some v1, some v2, some v3, x3, x4, x5, x6, none, none, none]) ∧ Same F2 Hc ∧ Same H2 Hc
      refine for_by y P' (fun i σ Hc h => h.2.1) ⟨⟨_, _, _, _, rfl⟩, g2.fh, .refl _⟩ (fun i d σ Hc hd h x F' H' g dx => ?_) fun σ Hc h => ?_
      · obtain ⟨⟨x3, x4, x5, x6, rfl⟩, hF, hH⟩ := h
        obtain ⟨b2, ys, rfl, hb2, dys⟩ := (d2.same (g12.ff.trans g.ff)).lstE
        refine ⟨_, rfl, b2, ys, rfl, .inl (SqL.of (g.fh _ _ hb2)), fun l hl => ?_⟩
        have Fl : F' l = none := g.fh.free hl
        have s3 : Same (upd F' l (.lst ys)) (upd H' l (.lst ys)) := sm_upd2 g.fh
        have f3 : Same F' (upd F' l (.lst ys)) := sm_upd Fl
        have d4 : Dt K (upd F' l (.lst ys)) (.ref l) (txs W) := .lst upd_same (dys.same f3)
        refine ⟨_, rfl, _, rfl, _, _, upd F' l (.lst ys), U, W, rfl, s3, d1.same ((g12.ff.trans g.ff).trans f3), d4, tb.g, by omega, tb.len, fun v hv => cods_asc tb.g (tb.cod v hv), fun v5 R H5 h5 r5 f5 d5 => ?_⟩
        intro q hq
        have Fh5 : Same (upd F' l (.lst ys)) H5 := fun a o h => h5 _ _ (s3 _ _ h)
        have F5 : Same F' H5 := fun a o h => Fh5 _ _ (f3 _ _ h)
        have Rl : R l = none := by
          cases e : R l with
          | none => rfl
          | some o => have := f5 l o e; rw [upd_same] at this; cases this
        have Rq : R q = none := r5.free hq
        have lq : l ≠ q := ne_of_none (h5 _ _ upd_same) hq
        have ok := tb.eok
        have zne : W.zipIdx ≠ [] := fun z => tb.n0 (by
          have := congrArg List.length z
          rw [List.length_zipIdx] at this
          exact List.length_eq_zero_iff.mp this)
        have rd := read_e tb.g 9 [] W.zipIdx [] (by decide) ok zne zip_inj (fun _ _ _ h => nomatch h) (by rw [List.length_zipIdx]; show 0 + W.length ≤ 1000; omega)
        rw [List.nil_append] at rd
        have lp : (lvT U.codes 9 [] W.zipIdx).Perm (W.zipIdx.map fun e => (e.2, [] ++ e.1)) := lvT_perm tb.g.nd 9 [] W.zipIdx ok
        generalize hlv : lvT U.codes 9 [] W.zipIdx = lv at rd lp
        refine ⟨_, rfl, _, rfl, _, rfl, [lettD U.codes, .lst (grT U.codes 9 W.zipIdx), .str (txt []), .dct false []], both F' R, q, .dct false [], ?_, rfl, ?_, rfl, rfl, both_none (F5.free hq) Rq, ⟨[], upd_same, .nil, rfl⟩, _, _, rd, fun v6 G7 H7 g7 d6 ow => ?_⟩
        · exact fun a o h => by
            have := both_in F5 r5 a o h
            rw [upd_ne (ne_of_none this hq)]
            exact this
        · intro j v hj hv
          match j, hj, hv with
          | 0, _, hv => cases hv; exact ⟨_, rfl, (d3.same (g2.ff.trans g.ff)).same both_l⟩
          | 1, _, hv => cases hv; exact ⟨_, rfl, d5.same (both_r F5 r5)⟩
          | 2, _, hv => cases hv; exact ⟨_, rfl, .str _⟩
          | 3, hj, _ => exact absurd rfl hj
          | j + 4, _, hv => simp at hv
        have h6v := d6.blE
        subst h6v
        obtain ⟨kvs, hkv, dkv, ekv⟩ := ow
        have ek := lf_kvs dkv ekv
        subst ek
        have H57 : ∀ a o, H5 a = some o → H7 a = some o := fun a o h => by
          have n := ne_of_none h hq
          refine g7.hh a o n ?_
          rw [upd_ne n]
          exact h
        have Fh7 : Same (upd F' l (.lst ys)) H7 := fun a o h => H57 _ _ (Fh5 _ _ h)
        have d1h := d1.same ((g12.ff.trans g.ff).trans f3)
        have d2h : Dt K (upd F' l (.lst ys)) (.ref b2) (txs W) := d2.same ((g12.ff.trans g.ff).trans f3)
        refine ⟨true, rfl, ?_⟩
        refine iteF ?_
        have lyw : lay (txs W) = true := (Ly.txts (n := 0) fun v hv => cods_asc tb.g (tb.cod v hv)).lay (by decide)
        have t1 : bT (eOp dNe (eVar 4) (eVar 1)) [some U.d, some (txs W), none, none, some (txs W), none, none, none, none, none] = .ok false := by
          have := dNe_self lyw
          generalize txs W = wd at *
          generalize U.d = td
          simp [this]
        refine ⟨upd F' l (.lst ys), [some U.d, some (txs W), none, none, some (txs W), none, none, none, none, none], Fh7, vw_some d1h (vw_some d2h (vw_none (vw_none (vw_some d4 (vw_none (vw_none (vw_none (vw_none (vw_none vw_nil))))))))), ?_⟩
        rw [t1]
        intro b F9 H9 g9 hb
        cases hb
        refine iteF ?_
        have c2 : eComp [8, 9] (iEnumD (aCons (eVar 1) aNil)) (tgT [(tgN 8), (tgN 9)]) bYes (eTup (aCons (eVar 8) (aCons (eVar 9) aNil))) [some U.d, some (txs W), none, none, none, none, none, none, none, none] = .ok (.lst (W.zipIdx.map fun e => .tup [.int (e.2 : Nat), .str (txt e.1)])) := by
          refine eComp_all (F := fun e : List Nat × Nat => .tup [.int (e.2 : Nat), .str (txt e.1)]) _ (by
            rw [← numbered_zip (fun v => D.str (txt v)) W 0]
            rfl) (by rw [List.length_zipIdx]; omega) fun e he => ⟨[(8, .int (e.2 : Nat)), (9, .str (txt e.1))], rfl, by simp, ?_⟩
          generalize U.d = td
          generalize txs W = wd
          simp
        refine ⟨_, rfl, F9, [some U.d, some (txs W), none, none, none, none, none, none, none, none], g9.fh, vw_some (d1h.same g9.ff) (vw_some (d2h.same g9.ff) (vw_none (vw_none (vw_none (vw_none (vw_none (vw_none (vw_none (vw_none vw_nil))))))))), ?_⟩
        show Po _ _ _ _ _ _ (eComp [8, 9] _ _ _ _ _) _
        rw [c2]
        intro v10 F10 H10 g10 d10
        obtain ⟨a10, xs10, rfl, ha10, dx10⟩ := d10.lstE
        obtain ⟨ps, rfl, pr⟩ := num_ps g10.fh dx10
        have mk : L2.mergeK [] (W.zipIdx.map numKV) = W.zipIdx.map numKV := by
          rw [mergeK_new _ _ (fun _ h => absurd h List.not_mem_nil) zip_nd, List.nil_append]
        refine ⟨a10, ps, _, rfl, SqL.of (g10.fh _ _ ha10), pr, fun p hp => ?_⟩
        rw [mk]
        have H7x : ∀ a o, H7 a = some o → upd H10 p (.dK (W.zipIdx.map numKV)) a = some o := fun a o h => by
          have := g10.hh _ _ (g9.hh _ _ h)
          rw [upd_ne (ne_of_none this hp)]
          exact this
        refine ⟨q, p, _, _, rfl, rfl, H7x _ _ hkv, upd_same, ?_, ?_, false, rfl, ?_⟩
        · rw [List.length_map, List.length_map, lp.length_eq, List.length_map]
        · intro kv hm
          obtain ⟨x, hx, rfl⟩ := List.mem_map.mp hm
          obtain ⟨e, he, rfl⟩ := List.mem_map.mp (lp.mem_iff.mp hx)
          exact ⟨valV_mem (p := numKV e) zip_nd (List.mem_map.mpr ⟨e, he, rfl⟩), rfl⟩
        refine iteF ?_
        have hl11 : upd H10 p (.dK (W.zipIdx.map numKV)) l = some (.lst ys) := H7x _ _ (H57 _ _ (h5 _ _ upd_same))
        refine ⟨_, rfl, .inl ⟨rfl, _, SqL.of hl11⟩, l, ys, rfl, rfl, hl11, ?_⟩
        refine ⟨_, rfl, _, R, _, rfl, d5, grT_tr 9 _, fun a o h => ?_, fun Hz em => ?_⟩
        · left
          have n : a ≠ l := fun z => by rw [z, Rl] at h; cases h
          rw [upd_ne n]
          exact H7x _ _ (H57 _ _ (r5 _ _ h))
        have keep : ∀ a o, H' a = some o → Hz a = some o := fun a o h => by
          have n : a ≠ l := ne_of_none h hl
          have e1 : upd H' l (.lst ys) a = some o := by rw [upd_ne n]; exact h
          rcases em a with e | ⟨⟨xs, e⟩, _⟩
          · rw [e, upd_ne n]
            exact H7x _ _ (H57 _ _ (h5 _ _ e1))
          · have := f5 _ _ e
            rw [e1] at this
            cases this
        exact ⟨⟨_, _, _, _, rfl⟩, fun a o h => keep _ _ (g.hh _ _ (hF _ _ h)), fun a o h => keep _ _ (g.hh _ _ (hH _ _ h))⟩
      · obtain ⟨⟨x3, x4, x5, x6, rfl⟩, hF, hH⟩ := h
        exact Z _ _ _ ⟨fun a o h => hH _ _ (g12.hh _ _ h), g12.ff, hF, g12.nw⟩ (.bl _)
    · cases e
end
end Du

namespace Du
open PySem PySem.Spec PyProof.Rows L2 Dear
noncomputable def B_law : Env → Out := (sSeq (sAsg [] (eCall F__law_world (aCons (eVar 0) aNil)) (tgT [(tgN 1), (tgN 2)]))
(sSeq (sAsg [] (eCall F__law_copy (aCons (eVar 1) aNil)) (tgN 3))
(sRet [] (eAnd (eCall F__law_right (aCons (eVar 1) (aCons (eVar 2) aNil))) (eAnd (eCall F__law_right (aCons (eVar 1) (aCons (eUn dRev (eVar 2)) aNil))) (eOp dEq (eVar 1) (eVar 3)))))))
theorem B_law_u (ρ : Env) : B_law ρ = (sSeq (sAsg [] (eCall F__law_world (aCons (eVar 0) aNil)) (tgT [(tgN 1), (tgN 2)]))
(sSeq (sAsg [] (eCall F__law_copy (aCons (eVar 1) aNil)) (tgN 3))
(sRet [] (eAnd (eCall F__law_right (aCons (eVar 1) (aCons (eVar 2) aNil))) (eAnd (eCall F__law_right (aCons (eVar 1) (aCons (eUn dRev (eVar 2)) aNil))) (eOp dEq (eVar 1) (eVar 3))))))) ρ := rfl
noncomputable def F_law : List D → Res D := runD (["_law_script"] : List Str).length n_law.length B_law
theorem ok_law {P : Program} {w : World} {K : PySem.W.Frag} {mg : Str → Option Value} {base : Heap} (T : Txt K mg) {f : Addr} {fd : FuncData} (F : L2.Fun K "law" "law" s_law f fd) : FnOk P w K mg base CX0 (12 + 1) f fd ["_law_script"] (sp0 K F_law) :=
  okL (g := B_law) F c_law fun f cdv A outer s H E hr => 
(fss_cons (fs_asg (L := []) (fe_call (ok__law_world T) hr (fa_cons (fe_var 0) fa_nil)) (fg_tup (fgs_cons (fg_name 1 c_law.nd) (fgs_cons (fg_name 2 c_law.nd) fgs_nil))))
(fss_cons (fs_asg (L := []) (fe_call (ok__law_copy T) hr (fa_cons (fe_var 1) fa_nil)) (fg_name 3 c_law.nd))
(fss_one (fs_ret (L := []) (fe_and (fe_call (ok__law_right T) hr (fa_cons (fe_var 1) (fa_cons (fe_var 2) fa_nil))) (fe_and (fe_call (ok__law_right T) hr (fa_cons (fe_var 1) (fa_cons (fe_w (fw_rev (fe_var 2))) fa_nil))) (fe_one (fe_cmp (op_eqA (K := K) hr.units) opd_eq (fe_var 1) (fe_var 3)))))))))

end Du

namespace Du
open PySem PySem.Spec PyProof.Rows L2 Dear
/-! ### draws (the same in the laws of author A and B) -/
theorem draw_e {m : Int} (hm : 0 < m) (hw : m < 2 ^ 64) {d : D} (h : Src d) : ∃ k d', F__law_draw [d, .int m] = .ok (.int k, d') ∧ 0 ≤ k ∧ k < m ∧ Src d' := by
  obtain ⟨c, s, rfl, h0, h1⟩ := h
  show ∃ k d', outIO 0 (B__law_draw [some (.own true (.lst [.int c, .int s])), some (.frz (.int m)), none]) = _ ∧ _
  by_cases hc : 0 < c
  · refine ⟨c % m, _, ?_, Int.emod_nonneg _ (by omega), Int.emod_lt_of_pos _ hm, c / m, s, rfl, h0, h1⟩
    simp [B__law_draw, hc, hm, cdiv (a := c) hm hw]
  · have e0 : 0 ≤ (s * 48271 + 11) % 2147483647 := by omega
    have e1 : (s * 48271 + 11) % 2147483647 < 2147483647 := by omega
    refine ⟨(s * 48271 + 11) % 2147483647 * ((s * 48271 + 11) % 2147483647) % 2147483629 / 64 % m, _, ?_, Int.emod_nonneg _ (by omega), Int.emod_lt_of_pos _ hm, c, (s * 48271 + 11) % 2147483647, rfl, e0, by omega⟩
    have f1 := cmul (a := s) (b := 48271) (by omega) (by omega) (by omega) (by omega)
    have f2 := cmul (a := (s * 48271 + 11) % 2147483647) (b := (s * 48271 + 11) % 2147483647) (by omega) (by omega) (by omega) (by omega)
    have f3 := cdiv (a := (s * 48271 + 11) % 2147483647 * ((s * 48271 + 11) % 2147483647) % 2147483629) (b := 64) (by omega) (by omega)
    simp [B__law_draw, hc, hm, f1, f2, f3]
end Du

namespace Du
open PySem PySem.Spec PyProof.Rows L2 Dear
/-! ### the front of author B's laws: cells, sources, prices -/
theorem cell_e (ns : List Int) (hl : ns.length ≤ 63) (k : Nat) : ∃ c : Int, F__law_cell [.scr ns, .int k] = .ok (.int c) := by
  show ∃ c : Int, outR (B__law_cell [some (.frz (.scr ns)), some (.frz (.int k))]) = _
  by_cases h : k < ns.length
  · refine ⟨ns[k], ?_⟩
    have e : atI ns (k : Int) = some ns[k] := by rw [atI_nat (by omega), Int.toNat_natCast, List.getElem?_eq_getElem h]
    simp [B__law_cell, dLen_scr (ds := ns) (by omega), dIx_scr, e, h]
  · exact ⟨0, by simp [B__law_cell, dLen_scr (ds := ns) (by omega), h]⟩
theorem sourceB_e (c : Int) (k : Nat) (hk : k ≤ 100) : ∃ d, F__law_source [.int c, .int k] = .ok d ∧ Src d := by
  obtain ⟨a, ha, ea⟩ : ∃ a : Int, 0 ≤ a ∧ (if c < 0 then -c else c) = a := ⟨_, by split <;> omega, rfl⟩
  have f1 := cmulL (a := 104729) (b := k) (by omega) (by omega)
  have f2 := cmul (a := a % 1000003 + 104729 * k + 7) (b := 48271) (by omega) (by omega) (by omega) (by omega)
  refine ⟨.lst [.int (a * (if decide ((10 : Int) ^ 18 ≤ a) = true then 1 else 0)), .int ((a % 1000003 + 104729 * k + 7) * 48271 % 2147483647)], ?_, _, _, rfl, by omega, by omega⟩
  show outO (B__law_source [some (.frz (.int c)), some (.frz (.int k)), none, none]) = _
  have f4 : CMulA a (if (1000000000000000000 : Int) ≤ a then 1 else 0) := cmulR (by split <;> omega) (by split <;> omega)
  simp [B__law_source, ea, f1, f2, f4]
theorem lowest_e (t b : Nat) (ht : 0 < t) (hb : 0 < b) (h1 : t < 2 ^ 62) (h2 : b < 2 ^ 62) : ∃ d, F__law_lowest [.int t, .int b] = .ok d ∧ Price d := by
  have key : ∀ (n a : Nat), sWhile [] (bT (eOp dGt (eVar 3) (eC (.int 0)))) B__law_lowest_1 [some (.frz (.int t)), some (.frz (.int b)), some (.frz (.int a)), some (.frz (.int n))] = .nx [some (.frz (.int t)), some (.frz (.int b)), some (.frz (.int (Nat.gcd n a : Nat))), some (.frz (.int 0))] := by
    intro n
    induction n using Nat.strongRecOn with
    | ind n ih =>
      intro a
      rw [sWhile_e]
      by_cases hn : n = 0
      · subst hn
        simp
      · have hp : 0 < n := by omega
        have := ih (a % n) (Nat.mod_lt _ (by omega)) n
        simp [hp, B__law_lowest_1_u]
        rw [← Int.natCast_emod, this, Nat.gcd_rec n a]
  have hg : 0 < Nat.gcd t b := Nat.gcd_pos_of_pos_left _ ht
  have l1 : Nat.gcd t b ≤ t := Nat.gcd_le_left _ ht
  have l2 : Nat.gcd t b ≤ b := Nat.gcd_le_right _ hb
  have c1 := cdiv (a := t) (b := (Nat.gcd t b : Nat)) (by omega) (by omega)
  have c2 := cdiv (a := b) (b := (Nat.gcd t b : Nat)) (by omega) (by omega)
  refine ⟨.tup [.int (t / Nat.gcd t b : Nat), .int (b / Nat.gcd t b : Nat)], ?_, _, _, rfl, Nat.div_pos l1 hg, Nat.div_pos l2 hg, ?_, ?_, ?_⟩
  · show outR (B__law_lowest [some (.frz (.int t)), some (.frz (.int b)), none, none]) = _
    simp [B__law_lowest, show ¬ (t : Int) < 0 by omega, key, c1, c2]
  · exact Nat.gcd_div_gcd_div_gcd_of_pos_left ht
  · exact Nat.lt_of_le_of_lt (Nat.div_le_self _ _) h1
  · exact Nat.lt_of_le_of_lt (Nat.div_le_self _ _) h2
theorem pick_wide {k : Int} (h0 : 0 ≤ k) (h1 : k < 5) : ∃ m : Int, atI [D.int 5, .int 5, .int 9, .int 9, .int 900000000] k = some (.int m) ∧ 0 < m ∧ m ≤ 900000000 := by
  rw [atI_nat h0]
  have : k = 0 ∨ k = 1 ∨ k = 2 ∨ k = 3 ∨ k = 4 := by omega
  rcases this with rfl | rfl | rfl | rfl | rfl
  · exact ⟨_, rfl, by decide, by decide⟩
  · exact ⟨_, rfl, by decide, by decide⟩
  · exact ⟨_, rfl, by decide, by decide⟩
  · exact ⟨_, rfl, by decide, by decide⟩
  · exact ⟨_, rfl, by decide, by decide⟩
theorem priceB_e {d : D} (h : Src d) : ∃ p d', F__law_price [d] = .ok (p, d') ∧ Price p ∧ Src d' := by
  obtain ⟨k, d1, e1, k0, k1, s1⟩ := draw_e (m := 5) (by decide) (by decide) h
  obtain ⟨m, e2, m0, m1⟩ := pick_wide k0 k1
  obtain ⟨j, d2, e3, j0, j1, s2⟩ := draw_e (m := m) m0 (by omega) s1
  have f1 := cmul (a := 9) (b := 100000000) (by omega) (by omega) (by omega) (by omega)
  have st : ∀ {o : Out}, B__law_price [some (.own true d), none, none, none] = o → F__law_price [d] = outIO 0 o := fun e => by rw [← e]; rfl
  by_cases c : k < 2
  · refine ⟨.tup [.int (1 + j), .int 1], d2, ?_, ⟨(1 + j).toNat, 1, ?_, by omega, by omega, Nat.gcd_one_right _, by omega, by omega⟩, s2⟩
    · rw [st rfl]
      simp [B__law_price, e1, e2, e3, f1, c]
    · rw [show (((1 + j).toNat : Nat) : Int) = 1 + j by omega]; rfl
  · obtain ⟨i, d3, e4, i0, i1, s3⟩ := draw_e (m := m) m0 (by omega) s2
    obtain ⟨p, e5, hp⟩ := lowest_e (1 + j).toNat (1 + i).toNat (by omega) (by omega) (by omega) (by omega)
    rw [show (((1 + j).toNat : Nat) : Int) = 1 + j by omega, show (((1 + i).toNat : Nat) : Int) = 1 + i by omega] at e5
    refine ⟨p, d3, ?_, hp, s3⟩
    rw [st rfl]
    simp [B__law_price, e1, e2, e3, e4, e5, f1, c]
end Du

namespace Du
open PySem PySem.Spec PyProof.Rows L2 Dear
/-! ### author B's tongue: signs -/
def sbS (s : D) (m start st : Nat) (rows : List (Nat × D × D)) (x6 x7 x8 x9 : Option Slot) : Env := [some (.own true s), some (.frz (.int m)), some (.frz (.str abcB)), some (.frz (.int start)), some (.frz (.int st)), some (.own false (.lst (rows.map rowD))), x6, x7, x8, x9]
def RowB (r : Nat × D × D) : Prop := Price r.2.1 ∧ (r.2.2 = .non ∨ Price r.2.2)
theorem Price.immB {p : D} (h : Price p) : imm p = true := by
  obtain ⟨x, y, rfl, _⟩ := h
  rfl
/-- the price: drawn, or the one ahead's -/
theorem sb_price {s : D} (hs : Src s) (m start st : Nat) (rows : List (Nat × D × D)) (hr : ∀ r ∈ rows, RowB r) (p : D) (hp : Price p) (x8 x9 : Option Slot) (h8 : x8 = none) (h9 : x9 = none) :
    ∃ s' q, Src s' ∧ Price q ∧ sIfM (mAnd (mB [] (bT (eOp dGt (eVar 6) (eC (.int 0))))) (mTest (mOp dEq (mIO 0 0 F__law_draw (mAP [] (aCons (eC (.int 4)) aNil))) (mP [] (eC (.int 0))))))
      (sAsg [5] (eOp dIx (eOp dIx (eVar 5) (eOp dSub (eVar 6) (eC (.int 1)))) (eC (.int 1))) (tgN 7)) sPass (sbS s m start st rows (some (.frz (.int (rows.length : Nat)))) (some (.frz p)) x8 x9) = .nx (sbS s' m start st rows (some (.frz (.int (rows.length : Nat)))) (some (.frz q)) x8 x9) := by
  subst h8 h9
  have ip := hp.immB
  by_cases z : rows.length = 0
  · refine ⟨s, p, hs, hp, ?_⟩
    simp [sbS, z]
  · obtain ⟨k, s1, e1, k0, k1, hs1⟩ := draw_e (m := 4) (by decide) (by decide) hs
    have zp : 0 < rows.length := by omega
    by_cases c : k = 0
    · subst c
      obtain ⟨r, hr1⟩ : ∃ r, rows[rows.length - 1]? = some r := ⟨_, List.getElem?_eq_getElem (by omega)⟩
      have hq := (hr r (List.mem_of_getElem? hr1)).1
      have ix := dIx_at (F := rowD) hr1
      have iq := hq.immB
      rw [show ((rows.length - 1 : Nat) : Int) = (rows.length : Int) - 1 by omega] at ix
      have ix2 : dIx (rowD r) (.int 1) = .ok r.2.1 := by simp [rowD]
      refine ⟨s1, r.2.1, hs1, hq, ?_⟩
      simp only [dIx_lst] at ix
      simp [sbS, zp, e1, ix, ix2, iq]
    · refine ⟨s1, p, hs1, hp, ?_⟩
      simp [sbS, zp, e1, c]
theorem sb_last {s : D} (hs : Src s) (m start st : Nat) (rows : List (Nat × D × D)) (p : D) (hp : Price p) (k : Int) :
    ∃ s' z, Src s' ∧ (z = .non ∨ Price z) ∧ sIf [] (bT (eOp dEq (eVar 9) (eC (.int 0)))) (sAsg [] (eC .non) (tgN 8)) (sIf [] (bT (eOp dGt (eVar 9) (eC (.int 1)))) (sAsgM (mIO 0 0 F__law_price (mAP [] aNil)) (tgN 8)) sPass)
      (sbS s m start st rows (some (.frz (.int (rows.length : Nat)))) (some (.frz p)) (some (.frz p)) (some (.frz (.int k)))) = .nx (sbS s' m start st rows (some (.frz (.int (rows.length : Nat)))) (some (.frz p)) (some (.frz z)) (some (.frz (.int k)))) := by
  by_cases c0 : k = 0
  · refine ⟨s, .non, hs, .inl rfl, ?_⟩
    simp [sbS, c0]
  · by_cases c1 : 1 < k
    · obtain ⟨q, s1, e1, hq, hs1⟩ := priceB_e hs
      refine ⟨s1, q, hs1, .inr hq, ?_⟩
      simp [sbS, c0, c1, e1]
    · refine ⟨s, p, hs, .inr hp, ?_⟩
      simp [sbS, c0, c1]
theorem sb1_e (m start st : Nat) (hst : Stp st) (hm : m ≤ 26) : ∀ (j n : Nat) (s : D) (rows : List (Nat × D × D)), n + j = m → rows.length = n → rows.map (·.1) = (List.range n).map (codeB start st) → (∀ r ∈ rows, RowB r) → Src s → start < 26 →
    ∃ s' rows', Src s' ∧ rows'.map (·.1) = (List.range m).map (codeB start st) ∧ (∀ r ∈ rows', RowB r) ∧
      forL (tgN 6) B__law_signs_1 [6, 7, 8, 9] ((List.range' n j).map fun i => D.int (i : Nat)) (sbS s m start st rows none none none none) = .nx (sbS s' m start st rows' none none none none)
  | 0, n, s, rows, e, ln, h1, h2, hs, _ => by
    have : n = m := by omega
    subst this
    exact ⟨s, rows, hs, h1, h2, rfl⟩
  | j + 1, n, s, rows, e, ln, h1, h2, hs, h26 => by
    obtain ⟨p, s1, e1, hp, hs1⟩ := priceB_e hs
    obtain ⟨s2, q, hs2, hq, e2⟩ := sb_price hs1 m start st rows h2 p hp none none rfl rfl
    obtain ⟨k, s3, e3, k0, k1, hs3⟩ := draw_e (m := 6) (by decide) (by decide) hs2
    obtain ⟨s4, z, hs4, hz, e4⟩ := sb_last hs3 m start st rows q hq k
    obtain ⟨s', rows', hs', g1, g2, g3⟩ := sb1_e m start st hst hm j (n + 1) s4 (rows ++ [(codeB start st n, q, z)]) (by omega) (by rw [List.length_append, List.length_singleton, ln]) (by rw [List.map_append, h1, List.range_succ, List.map_append]; rfl) (fun r hr => by
      rcases List.mem_append.mp hr with hr | hr
      · exact h2 r hr
      · rw [List.mem_singleton.mp hr]; exact ⟨hq, hz⟩) hs4 h26
    refine ⟨s', rows', hs', g1, g2, ?_⟩
    have ip := hp.immB
    have iq := hq.immB
    have st25 : st ≤ 25 := by rcases hst with rfl | rfl | rfl | rfl <;> omega
    have cm := cmul (a := (st : Int)) (b := (n : Int)) (by omega) (by omega) (by omega) (by omega)
    have x := dIx_abcB ((start + st * n) % 26) (Nat.mod_lt _ (by decide))
    have y : (((start + st * n) % 26 : Nat) : Int) = ((start : Int) + (st : Int) * (n : Int)) % 26 := by rw [Int.natCast_emod, Int.natCast_add, Int.natCast_mul]; rfl
    rw [y] at x
    have b1 : B__law_signs_1 (setS (sbS s m start st rows none none none none) [(6, .int (n : Nat))]) = .nx (sbS s4 m start st (rows ++ [(codeB start st n, q, z)]) (some (.frz (.int (n : Nat)))) (some (.frz q)) (some (.frz z)) (some (.frz (.int k)))) := by
      rw [B__law_signs_1_u]
      refine seq_to (ρ' := sbS s1 m start st rows (some (.frz (.int (rows.length : Nat)))) (some (.frz p)) none none) (by simp [sbS, e1, ln]) ?_
      refine seq_to e2 ?_
      refine seq_to (ρ' := sbS s2 m start st rows (some (.frz (.int (rows.length : Nat)))) (some (.frz q)) (some (.frz q)) none) (by simp [sbS, iq]) ?_
      refine seq_to (ρ' := sbS s3 m start st rows (some (.frz (.int (rows.length : Nat)))) (some (.frz q)) (some (.frz q)) (some (.frz (.int k)))) (by simp [sbS, e3]) ?_
      refine seq_to e4 ?_
      rw [ln]
      simp [sbS, cm, x, codeB, rowD, show rows.length ≤ 16777215 by omega, iq]
    rw [List.range'_succ, List.map_cons, forL_cons, tgN_e, forT_ok, b1, forK_nx]
    have b2 : clr [6, 7, 8, 9] (sbS s4 m start st (rows ++ [(codeB start st n, q, z)]) (some (.frz (.int (n : Nat)))) (some (.frz q)) (some (.frz z)) (some (.frz (.int k)))) = sbS s4 m start st (rows ++ [(codeB start st n, q, z)]) none none none none := rfl
    rw [b2, g3]
theorem signsB_u (s : D) (m : D) : F__law_signs [s, m] = outIO 0 (B__law_signs [some (.own true s), some (.frz m), none, none, none, none, none, none, none, none]) := by rfl
theorem signsB_e {s : D} (hs : Src s) (m : Nat) (hm : m ≤ 26) : ∃ (s' : D) (rows : List (Nat × D × D)) (start st : Nat), Src s' ∧ Stp st ∧ rows.map (·.1) = (List.range m).map (codeB start st) ∧ (∀ r ∈ rows, RowB r) ∧ F__law_signs [s, .int m] = .ok (.lst (rows.map rowD), s') := by
  obtain ⟨k, s1, e1, k0, k1, hs1⟩ := draw_e (m := 26) (by decide) (by decide) hs
  obtain ⟨start, rfl⟩ : ∃ j : Nat, k = j := ⟨k.toNat, by omega⟩
  obtain ⟨k, s2, e2, k2, k3, hs2⟩ := draw_e (m := 4) (by decide) (by decide) hs1
  obtain ⟨st, e3, hst⟩ := pick_step k2 k3
  obtain ⟨s', rows, hs', h1, h2, e4⟩ := sb1_e m start st hst hm m 0 s2 [] (by omega) rfl rfl (fun _ h => nomatch h) hs2 (by omega)
  have rg := rng_e m (by omega)
  refine ⟨s', rows, start, st, hs', hst, h1, h2, ?_⟩
  rw [signsB_u]
  have : B__law_signs [some (.own true s), some (.frz (.int m)), none, none, none, none, none, none, none, none] = .rt (.lst (rows.map rowD)) [some (.own true s'), some (.frz (.int m)), some (.frz (.str abcB)), some (.frz (.int start)), some (.frz (.int st)), some (.frz (.lst (rows.map rowD))), none, none, none, none] := by
    rw [B__law_signs_u]
    refine seq_to (ρ' := [some (.own true s), some (.frz (.int m)), some (.frz (.str abcB)), none, none, none, none, none, none, none]) (by simp) ?_
    refine seq_to (ρ' := [some (.own true s1), some (.frz (.int m)), some (.frz (.str abcB)), some (.frz (.int start)), none, none, none, none, none, none]) (by simp [e1]) ?_
    refine seq_to (ρ' := [some (.own true s2), some (.frz (.int m)), some (.frz (.str abcB)), some (.frz (.int start)), some (.frz (.int st)), none, none, none, none, none]) (by simp [e2, e3]) ?_
    refine seq_to (ρ' := sbS s2 m start st [] none none none none) (by simp [sbS]) ?_
    refine seq_to (for_to (ds := (List.range' 0 m).map fun i => D.int (i : Nat)) (ρ' := sbS s2 m start st [] none none none none) (by simp [sbS, rg]) (by simp [sbS]) e4) ?_
    simp [sbS]
  rw [this, outIO_rt]
  exact ioC_e
end Du

namespace Du
open PySem PySem.Spec PyProof.Rows L2 Dear
/-! ### author B's tongue -/
theorem extM_to {m : Env → MO D} {ρ ρ1 : Env} {i : Nat} {t : Bool} {ds es : List D} (h1 : m ρ = .ok (.lst es) ρ1) (h2 : ρ1[i]? = some (some (.own t (.lst ds)))) (h3 : ds.length + es.length ≤ 16777215) : sExtM i m ρ = .nx (ρ1.set i (some (.own t (.lst (ds ++ es))))) := by
  unfold sExtM
  rw [mAt_e, h1, ats_ok]
  show chg ρ1 i _ = _
  rw [chg_e, ownL_e, h2, ownLC_e, chgC_e, if_pos (fit_of h3), chgT_e]
theorem paired_eqB {l es : List D} (h : Paired (fun d e => d = e) l es) : es = l := by
  induction h with
  | nil => rfl
  | cons h _ ih => rw [ih, h]
theorem paired_mapB {α : Type} {f g : α → D} {P : D → D → Prop} : ∀ {l : List α} {es : List D}, Paired P (l.map f) es → (∀ a ∈ l, ∀ e, P (f a) e → e = g a) → es = l.map g
  | [], _, .nil, _ => rfl
  | a :: l, _, .cons h t, q => by rw [q a List.mem_cons_self _ h, paired_mapB t fun x hx => q x (List.mem_cons_of_mem _ hx)]; rfl
/-- what the tongue's slots hold ahead of its bans -/
structure TB where
  ns : List Int
  bs : Nat
  ms : Nat
  lo : List Nat
  n : Nat
  rows : List (Nat × D × D)
  long : Nat
  rare : Nat
def tbS (X : TB) (s : D) (x7 x10 x11 x12 x13 x14 : Option Slot) : Env := [some (.frz (.scr X.ns)), some (.frz (.int X.bs)), some (.frz (.int X.ms)), some (.frz (.lst (X.lo.map fun z => .int (z : Nat)))), some (.own false s), some (.frz (.int X.n)), some (.frz (.lst (X.rows.map rowD))), x7, some (.frz (.int X.long)), some (.frz (.int X.rare)), x10, x11, x12, x13, x14]
def nmS (cs : List Nat) : D := txs (cs.map fun c => [c])
theorem firstsB_e (X : TB) (cs : List Nat) (hn : cs.length ≤ 1000) {s : D} (hs : Src s) : ∃ (s' : D) (fs : List Nat), Src s' ∧ fs.Sublist cs ∧
    mComp [13] [7] (iAny (eVar 7)) (tgN 13) (mTest (mOp dEq (mIO 0 4 F__law_draw (mAP [] (aCons (eC (.int 5)) aNil))) (mP [] (eC (.int 0))))) (mP [] (eVar 13)) (tbS X s (some (.own false (nmS cs))) none none none none none) = .ok (txs (fs.map fun c => [c])) (tbS X s' (some (.frz (nmS cs))) none none none none none) := by
  obtain ⟨es, ρ', sub, e1, ⟨s', hs', e2⟩, e3, e4⟩ := compM_sub (tg := tgN 13) (c := mTest (mOp dEq (mIO 0 4 F__law_draw (mAP [] (aCons (eC (.int 5)) aNil))) (mP [] (eC (.int 0))))) (f := mP [] (eVar 13)) (vs := [13])
    (I := fun ρ => ∃ s, Src s ∧ ρ = tbS X s (some (.frz (nmS cs))) none none none none none) (P := fun d e => d = e) (ds := cs.map fun c => D.str (txt [c])) (ρ := tbS X s (some (.frz (nmS cs))) none none none none none) ⟨s, hs, rfl⟩ (by
      rintro d hd ρ ⟨s1, hs1, rfl⟩
      obtain ⟨c, hc, rfl⟩ := List.mem_map.mp hd
      obtain ⟨k, s2, e5, k0, k1, hs2⟩ := draw_e (m := 5) (by decide) (by decide) hs1
      refine ⟨_, rfl, by simp, ?_⟩
      by_cases hk : k = 0
      · subst hk
        refine .inr ⟨tbS X s2 (some (.frz (nmS cs))) none none none (some (.frz (.str (txt [c])))) none, .str (txt [c]), tbS X s2 (some (.frz (nmS cs))) none none none (some (.frz (.str (txt [c])))) none, ?_, ?_, ⟨s2, hs2, ?_⟩, rfl⟩
        · simp [tbS, e5]
        · simp [tbS]
        · simp [tbS]
      · refine .inl ⟨tbS X s2 (some (.frz (nmS cs))) none none none (some (.frz (.str (txt [c])))) none, ?_, ⟨s2, hs2, ?_⟩⟩
        · simp [tbS, e5, hk]
        · simp [tbS])
  subst e2
  rw [paired_eqB e4] at e1
  obtain ⟨fs, h1, rfl⟩ := List.sublist_map_iff.mp e3
  refine ⟨s', fs, hs', h1, ?_⟩
  have hi : iAny (eVar 7) (view [7] (tbS X s (some (.own false (nmS cs))) none none none none none)) = .ok (cs.map fun c => D.str (txt [c])) := by simp [tbS, nmS, Function.comp_def]
  rw [mComp_of hi (by rw [List.length_map]; omega) (es := fs.map fun c => D.str (txt [c])) (ρ' := tbS X s' (some (.frz (nmS cs))) none none none none none) (by simpa [tbS] using e1)]
  unfold txs
  rw [List.map_map]
  rfl
theorem pairB1_e (X : TB) (hr : 0 < X.rare) (hr2 : X.rare ≤ 1000) (cs : List Nat) (x10 x11 : D) (a : Nat) (hn : cs.length ≤ 1000) {s : D} (hs : Src s) : ∃ (s' : D) (bs : List Nat), Src s' ∧ bs.Sublist cs ∧
    mComp [14] [7] (iAny (eVar 7)) (tgN 14) (mTest (mOp dEq (mIO 0 4 F__law_draw (mAP [] (aCons (eVar 9) aNil))) (mP [] (eC (.int 0))))) (mP [] (eOp dAdd (eVar 12) (eVar 14))) (tbS X s (some (.frz (nmS cs))) (some (.own false x10)) (some (.own false x11)) (some (.frz (.str (txt [a])))) none none) = .ok (txs (bs.map fun b => [a, b])) (tbS X s' (some (.frz (nmS cs))) (some (.own false x10)) (some (.own false x11)) (some (.frz (.str (txt [a])))) none none) := by
  obtain ⟨es, ρ', sub, e1, ⟨s', hs', e2⟩, e3, e4⟩ := compM_sub (tg := tgN 14) (c := mTest (mOp dEq (mIO 0 4 F__law_draw (mAP [] (aCons (eVar 9) aNil))) (mP [] (eC (.int 0))))) (f := mP [] (eOp dAdd (eVar 12) (eVar 14))) (vs := [14])
    (I := fun ρ => ∃ s, Src s ∧ ρ = tbS X s (some (.frz (nmS cs))) (some (.own false x10)) (some (.own false x11)) (some (.frz (.str (txt [a])))) none none) (P := fun d e => ∀ c, d = .str (txt [c]) → e = .str (txt [a, c])) (ds := cs.map fun c => D.str (txt [c])) (ρ := tbS X s (some (.frz (nmS cs))) (some (.own false x10)) (some (.own false x11)) (some (.frz (.str (txt [a])))) none none) ⟨s, hs, rfl⟩ (by
      rintro d hd ρ ⟨s1, hs1, rfl⟩
      obtain ⟨c, hc, rfl⟩ := List.mem_map.mp hd
      obtain ⟨k, s2, e5, k0, k1, hs2⟩ := draw_e (m := (X.rare : Int)) (by omega) (by omega) hs1
      refine ⟨_, rfl, by simp, ?_⟩
      by_cases hk : k = 0
      · subst hk
        refine .inr ⟨tbS X s2 (some (.frz (nmS cs))) (some (.own false x10)) (some (.own false x11)) (some (.frz (.str (txt [a])))) none (some (.frz (.str (txt [c])))), .str (txt [a, c]), tbS X s2 (some (.frz (nmS cs))) (some (.own false x10)) (some (.own false x11)) (some (.frz (.str (txt [a])))) none (some (.frz (.str (txt [c])))), ?_, ?_, ⟨s2, hs2, ?_⟩, ?_⟩
        · simp [tbS, e5]
        · simp [tbS, txt_length, txt_app]
        · simp [tbS]
        · intro c' e
          cases txt_inj (D.str.inj e)
          rfl
      · refine .inl ⟨tbS X s2 (some (.frz (nmS cs))) (some (.own false x10)) (some (.own false x11)) (some (.frz (.str (txt [a])))) none (some (.frz (.str (txt [c])))), ?_, ⟨s2, hs2, ?_⟩⟩
        · simp [tbS, e5, hk]
        · simp [tbS])
  subst e2
  obtain ⟨bs, h1, rfl⟩ := List.sublist_map_iff.mp e3
  have e6 : es = bs.map fun b => D.str (txt [a, b]) := paired_mapB e4 fun b _ e h => h b rfl
  subst e6
  refine ⟨s', bs, hs', h1, ?_⟩
  have hi : iAny (eVar 7) (view [7] (tbS X s (some (.frz (nmS cs))) (some (.own false x10)) (some (.own false x11)) (some (.frz (.str (txt [a])))) none none)) = .ok (cs.map fun c => D.str (txt [c])) := by simp [tbS, nmS, Function.comp_def]
  rw [mComp_of hi (by rw [List.length_map]; omega) (es := bs.map fun b => D.str (txt [a, b])) (ρ' := tbS X s' (some (.frz (nmS cs))) (some (.own false x10)) (some (.own false x11)) (some (.frz (.str (txt [a])))) none none) (by simpa [tbS] using e1)]
  unfold txs
  rw [List.map_map]
  rfl
theorem pairsB_e (X : TB) (hr : 0 < X.rare) (hr2 : X.rare ≤ 1000) (cs : List Nat) (x10 : D) (hn : cs.length ≤ 26) : ∀ (l done : List Nat) (s : D) (ps : List (List Nat)), done ++ l = cs → cs.Nodup → Src s → (∀ v ∈ ps, ∃ a b, v = [a, b] ∧ a ∈ done ∧ b ∈ cs) → ps.Nodup → ps.length ≤ done.length * 26 →
    ∃ (s' : D) (ps' : List (List Nat)), Src s' ∧ (∀ v ∈ ps', ∃ a b, v = [a, b] ∧ a ∈ cs ∧ b ∈ cs) ∧ ps'.Nodup ∧ ps'.length ≤ 676 ∧
      forL (tgN 12) B__law_tongue_1 [12, 14] (l.map fun c => .str (txt [c])) (tbS X s (some (.frz (nmS cs))) (some (.own false x10)) (some (.own false (txs ps))) none none none) = .nx (tbS X s' (some (.frz (nmS cs))) (some (.own false x10)) (some (.own false (txs ps'))) none none none)
  | [], done, s, ps, hd, nd, hs, h1, h2, h3 => by
    rw [List.append_nil] at hd
    subst hd
    exact ⟨s, ps, hs, h1, h2, by omega, rfl⟩
  | a :: l, done, s, ps, hd, nd, hs, h1, h2, h3 => by
    obtain ⟨s1, bs, hs1, hb, e1⟩ := pairB1_e X hr hr2 cs x10 (txs ps) a (by omega) hs
    have na : a ∉ done := by
      intro m
      rw [← hd] at nd
      exact (List.nodup_append.mp nd).2.2 a m a List.mem_cons_self rfl
    have dl : done.length ≤ 26 := by
      rw [← hd, List.length_append] at hn
      omega
    have bl := hb.length_le
    obtain ⟨s', ps', hs', g1, g2, g3, g4⟩ := pairsB_e X hr hr2 cs x10 hn l (done ++ [a]) s1 (ps ++ bs.map fun b => [a, b]) (by rw [List.append_assoc]; exact hd) nd hs1 (fun v hv => by
      rcases List.mem_append.mp hv with hv | hv
      · obtain ⟨x, y, e, m1, m2⟩ := h1 v hv
        exact ⟨x, y, e, List.mem_append_left _ m1, m2⟩
      · obtain ⟨b, m, rfl⟩ := List.mem_map.mp hv
        exact ⟨a, b, rfl, List.mem_append_right _ (List.mem_singleton.mpr rfl), hb.subset m⟩) (by
      refine List.nodup_append.mpr ⟨h2, List.pairwise_map.mpr ((hb.nodup nd).imp fun ne e => ne (by simpa using e)), fun v hv u hu e => ?_⟩
      obtain ⟨x, y, e1, m1, m2⟩ := h1 v hv
      obtain ⟨b, m, rfl⟩ := List.mem_map.mp hu
      rw [e1] at e
      cases e
      exact na m1) (by rw [List.length_append, List.length_append, List.length_map, List.length_singleton, Nat.add_mul]; omega)
    refine ⟨s', ps', hs', g1, g2, g3, ?_⟩
    have e2 : B__law_tongue_1 (setS (tbS X s (some (.frz (nmS cs))) (some (.own false x10)) (some (.own false (txs ps))) none none none) [(12, .str (txt [a]))]) = .nx (tbS X s1 (some (.frz (nmS cs))) (some (.own false x10)) (some (.own false (txs (ps ++ bs.map fun b => [a, b])))) (some (.frz (.str (txt [a])))) none none) := by
      have e3 : setS (tbS X s (some (.frz (nmS cs))) (some (.own false x10)) (some (.own false (txs ps))) none none none) [(12, .str (txt [a]))] = tbS X s (some (.frz (nmS cs))) (some (.own false x10)) (some (.own false (txs ps))) (some (.frz (.str (txt [a])))) none none := rfl
      rw [e3, B__law_tongue_1_u]
      refine need_to rfl ?_
      unfold txs at e1 ⊢
      rw [extM_to e1 rfl (by rw [List.length_map, List.length_map, List.length_map]; omega)]
      simp [tbS]
    rw [List.map_cons, forL_cons, tgN_e, forT_ok, e2, forK_nx]
    have e5 : clr [12, 14] (tbS X s1 (some (.frz (nmS cs))) (some (.own false x10)) (some (.own false (txs (ps ++ bs.map fun b => [a, b])))) (some (.frz (.str (txt [a])))) none none) = tbS X s1 (some (.frz (nmS cs))) (some (.own false x10)) (some (.own false (txs (ps ++ bs.map fun b => [a, b])))) none none none := rfl
    rw [e5]
    exact g4
theorem pick_rare {k : Int} (h0 : 0 ≤ k) (h1 : k < 4) : ∃ m : Nat, atI [D.int 2, .int 5, .int 9, .int 36] k = some (.int m) ∧ 0 < m ∧ m ≤ 1000 := by
  rw [atI_nat h0]
  have : k = 0 ∨ k = 1 ∨ k = 2 ∨ k = 3 := by omega
  rcases this with rfl | rfl | rfl | rfl
  · exact ⟨2, rfl, by decide, by decide⟩
  · exact ⟨5, rfl, by decide, by decide⟩
  · exact ⟨9, rfl, by decide, by decide⟩
  · exact ⟨36, rfl, by decide, by decide⟩
theorem map_txs {α : Type} {l : List α} {f : α → List Nat} : (l.map fun a => D.str (txt (f a))) = (l.map f).map fun v => D.str (txt v) := by rw [List.map_map]; rfl
theorem tongueB_u (a b c d : D) : F__law_tongue [a, b, c, d] = outR (B__law_tongue [some (.frz a), some (.frz b), some (.frz c), some (.frz d), none, none, none, none, none, none, none, none, none, none, none]) := by rfl
theorem tongueB_e (ns : List Int) (hl : ns.length ≤ 63) (bs ms : Nat) (hb : bs ≤ 90) (h0 : 2 ≤ ms) (h1 : ms ≤ 6) (lo : List Nat) (hlo : ms ≤ lo.length + 1) (hz : ∀ z ∈ lo, 1 ≤ z ∧ z ≤ 8) :
    ∃ T : Tg, F__law_tongue [.scr ns, .int bs, .int ms, .lst (lo.map fun z => .int (z : Nat))] = .ok T.d ∧ Good T ∧ T.signs.length ≤ ms ∧ ∃ z, lo[T.signs.length - 2]? = some z ∧ T.long ≤ z := by
  obtain ⟨c1, ec1⟩ := cell_e ns hl bs
  obtain ⟨s0, es0, hs0⟩ := sourceB_e c1 bs (by omega)
  obtain ⟨k, s1, e1, k0, k1, hs1⟩ := draw_e (m := (ms : Int) - 1) (by omega) (by omega) hs0
  obtain ⟨j, rfl⟩ : ∃ j : Nat, k = j := ⟨k.toNat, by omega⟩
  obtain ⟨s2, rows, start, st, hs2, hst, hrows, hrow, e2⟩ := signsB_e hs1 (2 + j) (by omega)
  have hcl : rows.length = 2 + j := by rw [← List.length_map (f := (·.1)), hrows, List.length_map, List.length_range]
  have hcn : (rows.map (·.1)).Nodup := by rw [hrows]; exact codeB_nd hst (by omega)
  have hcr : ∀ c ∈ rows.map (·.1), 97 ≤ c ∧ c ≤ 122 := by
    intro c hc
    rw [hrows] at hc
    obtain ⟨i, _, rfl⟩ := List.mem_map.mp hc
    unfold codeB
    omega
  clear hrows
  obtain ⟨c2, ec2⟩ := cell_e ns hl (bs + 1)
  obtain ⟨s3, es3, hs3⟩ := sourceB_e c2 (bs + 1) (by omega)
  obtain ⟨z, ez⟩ : ∃ z, lo[j]? = some z := ⟨_, List.getElem?_eq_getElem (by omega)⟩
  obtain ⟨z1, z8⟩ := hz z (List.mem_of_getElem? ez)
  obtain ⟨k, s4, e4, k2, k3, hs4⟩ := draw_e (m := (z : Int)) (by omega) (by omega) hs3
  obtain ⟨g, rfl⟩ : ∃ g : Nat, k = g := ⟨k.toNat, by omega⟩
  obtain ⟨k, s5, e5, k4, k5, hs5⟩ := draw_e (m := 4) (by decide) (by decide) hs4
  obtain ⟨rare, er, r0, r1⟩ := pick_rare k4 k5
  let X : TB := ⟨ns, bs, ms, lo, 2 + j, rows, 1 + g, rare⟩
  let cs := rows.map (·.1)
  have csl : cs.length = 2 + j := by show (rows.map (·.1)).length = _; rw [List.length_map, hcl]
  obtain ⟨s6, fs, hs6, hf, e6⟩ := firstsB_e X cs (by omega) hs5
  obtain ⟨s7, ps, hs7, p1, p2, p3, e7⟩ := pairsB_e X r0 r1 cs (txs (fs.map fun c => [c])) (by omega) cs [] s6 [] rfl hcn hs6 (fun _ h => nomatch h) .nil (Nat.zero_le _)
  obtain ⟨k, s8, e8, k6, k7, hs8⟩ := draw_e (m := 2) (by decide) (by decide) hs7
  have good : ∀ (fs' ps' : List (List Nat)), (∀ v ∈ fs', v ∈ fs.map fun c => [c]) → fs'.Nodup → fs'.length ≤ 1000 → (∀ v ∈ ps', v ∈ ps) → ps'.Nodup → ps'.length ≤ 1000 → Good ⟨rows, fs', ps', 1 + g⟩ := by
    intro fs' ps' a1 a2 a3 a4 a5 a6
    refine ⟨by show 2 ≤ rows.length; omega, by show rows.length ≤ 6; omega, fun r hr => ?_, hcn, fun v hv => ?_, a2, fun v hv => p1 v (a4 v hv), a5, a3, a6, by show 1 ≤ 1 + g; omega, by show 1 + g ≤ 8; omega⟩
    · have := hcr r.1 (List.mem_map.mpr ⟨r, hr, rfl⟩)
      exact ⟨this.1, this.2, (hrow r hr).1, (hrow r hr).2⟩
    · obtain ⟨c, hc, rfl⟩ := List.mem_map.mp (a1 v hv)
      exact ⟨c, rfl, hf.subset hc⟩
  have fl := hf.length_le
  have fnd : (fs.map fun c => [c]).Nodup := List.pairwise_map.mpr ((hf.nodup hcn).imp fun ne e => ne (by simpa using e))
  have ix2 : dIx (.lst (lo.map fun z => .int (z : Nat))) (.int (j : Nat)) = .ok (.int (z : Nat)) := dIx_at ez
  have dj : (((2 : Int) + (j : Int)) - 2) = (j : Nat) := by omega
  have nd2 : ((2 : Int) + (j : Int)) = ((2 + j : Nat) : Int) := by omega
  have pre : ∀ (o : Out), (∀ h : Env → Out, True) → True := fun _ _ => trivial
  have run : ∀ (fs' ps' : List (List Nat)), (k = 1 → fs' = (fs.map fun c => [c]).reverse ∧ ps' = ps.reverse) → (k ≠ 1 → fs' = (fs.map fun c => [c]) ∧ ps' = ps) → ∃ ρ', B__law_tongue [some (.frz (.scr ns)), some (.frz (.int bs)), some (.frz (.int ms)), some (.frz (.lst (lo.map fun z => .int (z : Nat)))), none, none, none, none, none, none, none, none, none, none, none] = .rt (Tg.d ⟨rows, fs', ps', 1 + g⟩) ρ' := by
    intro fs' ps' ha hb'
    rw [B__law_tongue_u]
    refine ⟨tbS X s8 (some (.frz (nmS cs))) (some (.frz (txs fs'))) (some (.frz (txs ps'))) none none none, ?_⟩
    refine seq_to (ρ' := [some (.frz (.scr ns)), some (.frz (.int bs)), some (.frz (.int ms)), some (.frz (.lst (lo.map fun z => .int (z : Nat)))), some (.own false s0), none, none, none, none, none, none, none, none, none, none]) (by
      obtain ⟨a, b, rfl, _, _⟩ := hs0
      simp [ec1, es0]) ?_
    refine seq_to (ρ' := [some (.frz (.scr ns)), some (.frz (.int bs)), some (.frz (.int ms)), some (.frz (.lst (lo.map fun z => .int (z : Nat)))), some (.own false s1), some (.frz (.int (2 + j : Nat))), none, none, none, none, none, none, none, none, none]) (by simp [e1]) ?_
    refine seq_to (ρ' := [some (.frz (.scr ns)), some (.frz (.int bs)), some (.frz (.int ms)), some (.frz (.lst (lo.map fun z => .int (z : Nat)))), some (.own false s2), some (.frz (.int (2 + j : Nat))), some (.frz (.lst (rows.map rowD))), none, none, none, none, none, none, none, none]) (by
      rw [asgM_to (d := .lst (rows.map rowD)) (ρ' := [some (.frz (.scr ns)), some (.frz (.int bs)), some (.frz (.int ms)), some (.frz (.lst (lo.map fun z => .int (z : Nat)))), some (.own false s2), some (.frz (.int (2 + j : Nat))), none, none, none, none, none, none, none, none, none]) (by
        have e2' : F__law_signs [s1, .int (2 + (j : Int))] = .ok (.lst (rows.map rowD), s2) := by rw [nd2]; exact e2
        simp [e2'])]
      rfl) ?_
    refine seq_to (ρ' := [some (.frz (.scr ns)), some (.frz (.int bs)), some (.frz (.int ms)), some (.frz (.lst (lo.map fun z => .int (z : Nat)))), some (.own false s2), some (.frz (.int (2 + j : Nat))), some (.frz (.lst (rows.map rowD))), some (.own false (nmS cs)), none, none, none, none, none, none, none]) (by
      have c : eComp [12] (iAny (eVar 6)) (tgN 12) bYes (eOp dIx (eVar 12) (eC (.int 0))) [some (.scr ns), some (.int bs), some (.int ms), some (.lst (lo.map fun z => .int (z : Nat))), none, some (.int (2 + j : Nat)), some (.lst (rows.map rowD)), none, none, none, none, none, none, none, none] = .ok (nmS cs) := by
        have en : nmS cs = .lst (rows.map fun r => .str (txt [r.1])) := by
          unfold nmS txs
          rw [List.map_map, List.map_map]
          rfl
        rw [en]
        refine eComp_all (F := rowD) _ (by simp) (by omega) fun r hr => ⟨_, rfl, by simp, ?_⟩
        simp [rowD]
      rw [own_to (d := nmS cs) (by
        show eComp [12] (iAny (eVar 6)) (tgN 12) bYes (eOp dIx (eVar 12) (eC (.int 0))) [some (.scr ns), some (.int bs), some (.int ms), some (.lst (lo.map fun z => .int (z : Nat))), none, some (.int (2 + j : Nat)), some (.lst (rows.map rowD)), none, none, none, none, none, none, none, none] = _
        exact c)]
      simp [nmS]) ?_
    refine seq_to (ρ' := [some (.frz (.scr ns)), some (.frz (.int bs)), some (.frz (.int ms)), some (.frz (.lst (lo.map fun z => .int (z : Nat)))), some (.own false s3), some (.frz (.int (2 + j : Nat))), some (.frz (.lst (rows.map rowD))), some (.own false (nmS cs)), none, none, none, none, none, none, none]) (by
      obtain ⟨a, b, rfl, _, _⟩ := hs3
      have ec2' : F__law_cell [.scr ns, .int ((bs : Int) + 1)] = .ok (.int c2) := ec2
      have es3' : F__law_source [.int c2, .int ((bs : Int) + 1)] = .ok (.lst [.int a, .int b]) := es3
      simp [ec2', es3']) ?_
    refine seq_to (ρ' := [some (.frz (.scr ns)), some (.frz (.int bs)), some (.frz (.int ms)), some (.frz (.lst (lo.map fun z => .int (z : Nat)))), some (.own false s4), some (.frz (.int (2 + j : Nat))), some (.frz (.lst (rows.map rowD))), some (.own false (nmS cs)), some (.frz (.int (1 + g : Nat))), none, none, none, none, none, none]) (by
      have x : eOp dIx (eVar 3) (eOp dSub (eVar 5) (eC (.int 2))) [some (.scr ns), some (.int bs), some (.int ms), some (.lst (lo.map fun z => .int (z : Nat))), none, some (.int (2 + j : Nat)), some (.lst (rows.map rowD)), none, none, none, none, none, none, none, none] = .ok (.int (z : Nat)) := by
        show dIx (.lst (lo.map fun z => .int (z : Nat))) (.int (((2 + j : Nat) : Int) - 2)) = _
        rw [show (((2 + j : Nat) : Int) - 2) = (j : Nat) by omega]
        exact ix2
      rw [asgM_to (d := .int (1 + g : Nat)) (ρ' := [some (.frz (.scr ns)), some (.frz (.int bs)), some (.frz (.int ms)), some (.frz (.lst (lo.map fun z => .int (z : Nat)))), some (.own false s4), some (.frz (.int (2 + j : Nat))), some (.frz (.lst (rows.map rowD))), some (.own false (nmS cs)), none, none, none, none, none, none, none]) (by
        rw [mOp_e]
        show md (mOp1 dAdd (mIO 0 4 F__law_draw (mAP [] (aCons (eOp dIx (eVar 3) (eOp dSub (eVar 5) (eC (.int 2)))) aNil))) ) (.ok (.int 1) _) = _
        rw [md_ok, mOp1_e, mIO_e]
        show md (mOp2 dAdd (.int 1)) (md (ioB 0 4 F__law_draw) (mAP [] (aCons (eOp dIx (eVar 3) (eOp dSub (eVar 5) (eC (.int 2)))) aNil) _)) = _
        rw [mAP_e]
        show md (mOp2 dAdd (.int 1)) (md (ioB 0 4 F__law_draw) (mpK (aftL []) _ _ (aCons (eOp dIx (eVar 3) (eOp dSub (eVar 5) (eC (.int 2)))) aNil [some (.scr ns), some (.int bs), some (.int ms), some (.lst (lo.map fun z => .int (z : Nat))), none, some (.int (2 + j : Nat)), some (.lst (rows.map rowD)), none, none, none, none, none, none, none, none]))) = _
        rw [aCons_e, x, aNil_e, cons2_ok]
        simp [e4])]
      rfl) ?_
    refine seq_to (ρ' := tbS X s5 (some (.own false (nmS cs))) none none none none none) (by simp [tbS, X, e5, er]) ?_
    refine seq_to (ownM_to e6) ?_
    refine seq_to (ρ' := tbS X s6 (some (.frz (nmS cs))) (some (.own false (txs (fs.map fun c => [c])))) (some (.own false (txs []))) none none none) (by simp [tbS]) ?_
    refine seq_to (for_to (ds := cs.map fun c => .str (txt [c])) (ρ' := tbS X s6 (some (.frz (nmS cs))) (some (.own false (txs (fs.map fun c => [c])))) (some (.own false (txs []))) none none none) (by simp [tbS, nmS, Function.comp_def]) (by simp [tbS]) e7) ?_
    refine seq_to (ρ' := tbS X s8 (some (.frz (nmS cs))) (some (.own false (txs fs'))) (some (.own false (txs ps'))) none none none) (by
      by_cases c : k = 1
      · obtain ⟨rfl, rfl⟩ := ha c
        have i1 : imms (List.map ((fun v => D.str (txt v)) ∘ fun c => [c]) fs).reverse = true := by
          rw [← List.map_reverse]
          exact imms_strs (f := fun c => txt [c])
        have i2 : imms (List.map (fun v => D.str (txt v)) ps).reverse = true := by
          rw [← List.map_reverse]
          exact imms_strs (f := fun v => txt v)
        simp [tbS, e8, c, dRev, i1, i2]
      · obtain ⟨rfl, rfl⟩ := hb' c
        simp [tbS, e8, c]) ?_
    simp [tbS, Tg.d, X]
  by_cases c : k = 1
  · obtain ⟨ρ', e⟩ := run (fs.map fun c => [c]).reverse ps.reverse (fun _ => ⟨rfl, rfl⟩) (fun h => absurd c h)
    refine ⟨⟨rows, (fs.map fun c => [c]).reverse, ps.reverse, 1 + g⟩, by rw [tongueB_u, e]; rfl, good _ _ (fun v hv => List.mem_reverse.mp hv) (List.pairwise_reverse.mpr (fnd.imp fun ne => Ne.symm ne)) (by rw [List.length_reverse, List.length_map]; omega) (fun v hv => List.mem_reverse.mp hv) (List.pairwise_reverse.mpr (p2.imp fun ne => Ne.symm ne)) (by rw [List.length_reverse]; omega), by show rows.length ≤ ms; omega, z, by show lo[rows.length - 2]? = _; rw [hcl, show 2 + j - 2 = j by omega]; exact ez, by show 1 + g ≤ z; omega⟩
  · obtain ⟨ρ', e⟩ := run (fs.map fun c => [c]) ps (fun h => absurd h c) (fun _ => ⟨rfl, rfl⟩)
    refine ⟨⟨rows, fs.map fun c => [c], ps, 1 + g⟩, by rw [tongueB_u, e]; rfl, good _ _ (fun v hv => hv) fnd (by rw [List.length_map]; omega) (fun v hv => hv) p2 (by omega), by show rows.length ≤ ms; omega, z, by show lo[rows.length - 2]? = _; rw [hcl, show 2 + j - 2 = j by omega]; exact ez, by show 1 + g ≤ z; omega⟩
end Du

namespace Du
open PySem PySem.Spec PyProof.Rows L2 Dear
/-! ### author B's words (for a good tongue) -/
theorem dIx_sign {w : List Nat} {k c : Nat} (hw : w.length ≤ 16777215) (h : w[k]? = some c) : dIx (.str (txt w)) (.int (k : Nat)) = .ok (.str (txt [c])) := by
  show (if fit (txt w).length = true then match atI (txt w).cps.toList (k : Int) with | some c => Res.ok (D.str ⟨#[c]⟩) | none => .bad else .bad) = _
  have e : (txt w).cps.toList = w := txt_list w
  rw [if_pos (fit_of (by rw [txt_length]; exact hw)), e, atI_nat (by omega), Int.toNat_natCast, h]
  rfl
theorem law_comes_e (T : Tg) {l : List Nat} {c : Nat} (hl : l.length ≤ 1) : F__law_comes [T.d, .str (txt l), .str (txt [c])] = .ok (.bl (T.comes l c)) := by
  show outR (B__law_comes [some (.frz T.d), some (.frz (.str (txt l))), some (.frz (.str (txt [c])))]) = _
  have e0 : (Str.ofString "" : Str) = txt [] := rfl
  unfold Tg.d Tg.comes
  by_cases h : l = []
  · subst h
    simp [B__law_comes, e0, dIn_txts]
  · have : ¬ txt l = txt [] := fun e => h (txt_inj e)
    simp [B__law_comes, e0, this, h, txt_app, txt_length, dIn_txts, show l.length + 1 ≤ 16777215 by omega]
/-- each sign of a text of a level may come where it stands -/
theorem level_steps {T : Tg} : ∀ {n : Nat} {w : List Nat}, w ∈ T.level n → ∀ k, k < n → ∃ c, w[k]? = some c ∧ c ∈ T.codes ∧ T.comes (lastL (w.take k)) c = true
  | 0, _, _, k, hk => absurd hk (Nat.not_lt_zero _)
  | n + 1, w, h, k, hk => by
    obtain ⟨v, r, hv, hr, hc, rfl⟩ := level_mem h
    have lv := level_w T n v hv
    by_cases e : k = n
    · subst e
      refine ⟨r.1, ?_, List.mem_map.mpr ⟨r, hr, rfl⟩, ?_⟩
      · rw [List.getElem?_append_right (by omega), lv, Nat.sub_self]; rfl
      · rw [List.take_append_of_le_length (by omega), List.take_of_length_le (by omega)]; exact hc
    · obtain ⟨c, h1, h2, h3⟩ := level_steps hv k (by omega)
      refine ⟨c, ?_, h2, ?_⟩
      · rw [List.getElem?_append_left (by omega)]; exact h1
      · rw [List.take_append_of_le_length (by omega)]; exact h3
theorem codes_e {T : Tg} (h : Good T) {vs : List Nat} {i : Nat} {x : VEnv} (hv : vs = [i]) (hx : x[0]? = some (some T.d)) (h0 : i ≠ 0) (hi : i < x.length) : eComp vs (iAny (eOp dIx (eVar 0) (eC (.int 0)))) (tgN i) bYes (eOp dIx (eVar i) (eC (.int 0))) x = .ok (txs (T.codes.map fun c => [c])) := by
  subst hv
  have h6 := h.hi
  have e : (T.codes.map fun c => [c]).map (fun v => D.str (txt v)) = T.signs.map fun r => D.str (txt [r.1]) := by
    unfold Tg.codes
    rw [List.map_map, List.map_map]
    rfl
  unfold txs
  rw [e]
  refine eComp_all (F := rowD) _ ?_ (by omega) fun r hr => ⟨_, rfl, by simp, ?_⟩
  · rw [iAny_e, eOp_e, eVar_e, hx]
    simp [Tg.d]
  · have g : (setAllD (wipeD x [i]) [(i, rowD r)])[i]? = some (some (rowD r)) := by simp [hi]
    rw [eOp_e, eVar_e, g]
    simp [rowD]
theorem mem_one {c : Nat} {cs : List Nat} : decide ([c] ∈ cs.map fun c => [c]) = decide (c ∈ cs) := by simp
def lsS (T : Tg) (w : List Nat) : Env := [some (.frz T.d), some (.frz (.str (txt w))), some (.own false (txs (T.codes.map fun c => [c]))), none, none]
theorem stands_e {T : Tg} (h : Good T) {n : Nat} (hn : n ≤ T.long) {w : List Nat} (hw : w ∈ T.level n) : F__law_stands [T.d, .str (txt w)] = .ok (.bl true) := by
  have lw := level_w T n w hw
  have h8 := h.l1
  have st := level_steps hw
  have turn : ∀ d ∈ (List.range' 0 n).map (fun i => D.int (i : Nat)), ∃ as ρ', tgN 3 d = .ok as ∧ B__law_stands_1 (setS (lsS T w) as) = .nx ρ' ∧ clr [3] ρ' = lsS T w := by
    intro d hd
    obtain ⟨k, hk, rfl⟩ := List.mem_map.mp hd
    have hk : k < n := by simpa using hk
    obtain ⟨c, h1, h2, h3⟩ := st k hk
    have x1 := dIx_sign (w := w) (by omega) h1
    have x2 := dSl_take (w := w) (j := k) (by omega)
    have x3 := dSl_last (w := w.take k) (by rw [List.length_take]; omega)
    have x4 := law_comes_e T (l := lastL (w.take k)) (c := c) (lastL_len _)
    have x5 : dIn true (.str (txt [c])) (txs (T.codes.map fun c => [c])) = .ok (.bl false) := by
      rw [dIn_txts, mem_one, decide_eq_true h2]; rfl
    refine ⟨_, [some (.frz T.d), some (.frz (.str (txt w))), some (.own false (txs (T.codes.map fun c => [c]))), some (.frz (.int (k : Nat))), none], rfl, ?_, rfl⟩
    simp [lsS, B__law_stands_1_u, x1, x2, x3, x4, x5, h3]
  have f := forL_same (l := [3]) turn
  have cd := codes_e (vs := [4]) (i := 4) (x := [some T.d, some (.str (txt w)), none, none, none]) h rfl rfl (by decide) (by simp)
  have rg := rng_e n (by omega)
  show outR (B__law_stands [some (.frz T.d), some (.frz (.str (txt w))), none, none, none]) = _
  have : B__law_stands [some (.frz T.d), some (.frz (.str (txt w))), none, none, none] = .rt (.bl true) (lsS T w) := by
    rw [B__law_stands_u]
    refine seq_to (ρ' := lsS T w) (by rw [own_to cd]; simp [lsS]) ?_
    refine seq_to (ρ' := lsS T w) (by
      have ix : dIx T.d (.int 3) = .ok (.int T.long) := by simp [Tg.d]
      have nl : ¬ ((T.long : Int) < (n : Int)) := by omega
      simp [lsS, ix, txt_length, lw, show n ≤ 16777215 by omega, nl]) ?_
    refine seq_to (for_to (ds := (List.range' 0 n).map fun i => D.int (i : Nat)) (ρ' := lsS T w) (by simp [lsS, txt_length, lw, show n ≤ 16777215 by omega, rg]) (by simp [lsS]) f) ?_
    simp [lsS]
  rw [this]
  rfl
theorem mem_ends {T : Tg} {c : Nat} : decide ([c] ∈ (T.signs.filter fun r => !isNon r.2.2).map fun r => [r.1]) = T.ends c := by
  rw [Bool.eq_iff_iff, decide_eq_true_eq]
  unfold Tg.ends
  rw [List.any_eq_true]
  constructor
  · intro h
    obtain ⟨r, hr, e⟩ := List.mem_map.mp h
    obtain ⟨h1, h2⟩ := List.mem_filter.mp hr
    have e : r.1 = c := by simpa using e
    exact ⟨r, h1, by rw [e, h2, beq_self_eq_true]; rfl⟩
  · rintro ⟨r, hr, e⟩
    rw [Bool.and_eq_true, beq_iff_eq] at e
    exact List.mem_map.mpr ⟨r, List.mem_filter.mpr ⟨hr, e.2⟩, by rw [e.1]⟩
theorem is_word_e {T : Tg} (h : Good T) {n : Nat} (hn : n + 1 ≤ T.long) {w : List Nat} (hw : w ∈ T.level (n + 1)) : F__law_is_word [T.d, .str (txt w)] = .ok (.bl (T.isW w)) := by
  have s1 := stands_e h hn hw
  have h6 := h.hi
  have h8 := h.l1
  obtain ⟨v, r, hv, hr, hc, rfl⟩ := level_mem hw
  have lv := level_w T n v hv
  have ne : ¬ txt (v ++ [r.1]) = txt [] := fun e => by
    have := txt_inj e
    simp at this
  have e0 : (Str.ofString "" : Str) = txt [] := rfl
  have ix := dIx_last (w := v) (c := r.1) (by omega)
  have en : eComp [2, 3, 4] (iAny (eOp dIx (eVar 0) (eC (.int 0)))) (tgT [(tgN 2), (tgN 3), (tgN 4)]) (bT (eOp dNotN (eVar 4) (eC .non))) (eVar 2) [some T.d, some (.str (txt (v ++ [r.1]))), none, none, none] = .ok (txs ((T.signs.filter fun r => !isNon r.2.2).map fun r => [r.1])) := by
    unfold txs
    rw [List.map_map]
    refine eComp_map (F := rowD) _ _ (by simp [Tg.d]) (by omega) fun r hr => ⟨_, rfl, by simp, ?_, fun _ => ?_⟩
    · simp
    · simp
  have i1 : dIn false (.str (txt [r.1])) (txs ((T.signs.filter fun r => !isNon r.2.2).map fun r => [r.1])) = .ok (.bl (T.isW (v ++ [r.1]))) := by
    rw [dIn_txts, mem_ends, isW_snoc]; cases T.ends r.1 <;> rfl
  show outR (B__law_is_word [some (.frz T.d), some (.frz (.str (txt (v ++ [r.1])))), none, none, none]) = _
  have : B__law_is_word [some (.frz T.d), some (.frz (.str (txt (v ++ [r.1])))), none, none, none] = .rt (.bl (T.isW (v ++ [r.1]))) [some (.frz T.d), some (.frz (.str (txt (v ++ [r.1])))), none, none, none] := by
    rw [B__law_is_word_u]
    refine seq_to (ρ' := [some (.frz T.d), some (.frz (.str (txt (v ++ [r.1])))), none, none, none]) (by simp [s1, e0, ne]) ?_
    have vw : view [] [some (.frz T.d), some (.frz (.str (txt (v ++ [r.1])))), none, none, none] = [some T.d, some (.str (txt (v ++ [r.1]))), none, none, none] := rfl
    have x1 : eOp dIx (eVar 1) (eUn dNeg (eC (.int 1))) [some T.d, some (.str (txt (v ++ [r.1]))), none, none, none] = .ok (.str (txt [r.1])) := by simp [ix]
    rw [sRet_e, vw, eOp_e, x1, en, op2_ok, i1, atR_ok]
    rfl
  rw [this]
  rfl
theorem level_few {T : Tg} (h : Good T) {n : Nat} (hn : n ≤ T.long) : (T.level n).length ≤ 1679616 := by
  have := h.l1
  exact Nat.le_trans (level_le T h.hi n) (six (by omega))
end Du

namespace Du
open PySem PySem.Spec PyProof.Rows L2 Dear
/-! ### author B's words: all of them -/
/-- the texts one sign longer -/
theorem ext_e {T : Tg} (h : Good T) {w : List Nat} (hw : w.length ≤ 1000) {x1 x2 x3 x4 x6 : Option D} : eComp [6] (iAny (eOp dIx (eVar 0) (eC (.int 0)))) (tgN 6) (bT (eCall F__law_comes (aCons (eVar 0) (aCons (eSl (eVar 5) (pYes (eUn dNeg (eC (.int 1)))) pNo) (aCons (eOp dIx (eVar 6) (eC (.int 0))) aNil))))) (eOp dAdd (eVar 5) (eOp dIx (eVar 6) (eC (.int 0))))
    [some T.d, x1, x2, x3, x4, some (.str (txt w)), x6] = .ok (txs (T.longer w)) := by
  have h6 := h.hi
  unfold txs Tg.longer
  rw [List.map_map]
  refine eComp_map (F := rowD) (fun r => T.comes (lastL w) r.1) _ (by simp [Tg.d]) (by omega) fun r hr => ⟨_, rfl, by simp, ?_, fun _ => ?_⟩
  · simp [rowD, dSl_last (w := w) (by omega), law_comes_e T (lastL_len w)]
  · simp [rowD, txt_length, txt_app, show w.length + 1 ≤ 16777215 by omega]
def lwS (T : Tg) (lev found : D) (x3 : Option Slot) (acc : List (List Nat)) (x5 : Option Slot) : Env := [some (.frz T.d), some (.frz lev), some (.own false found), x3, some (.own false (txs acc)), x5, none]
theorem lw1_e {T : Tg} (h : Good T) (lev found : D) (x3 : Option Slot) (h3 : x3 = none ∨ ∃ i, x3 = some (.frz (.int i))) : ∀ (ws acc : List (List Nat)), (∀ w ∈ ws, w.length ≤ 1000) → acc.length + ws.length * 6 ≤ 16777215 →
    forL (tgN 5) B__law_words_1 [5, 6] (ws.map fun v => .str (txt v)) (lwS T lev found x3 acc none) = .nx (lwS T lev found x3 (acc ++ T.step ws) none)
  | [], acc, _, _ => by simp [Tg.step]
  | w :: ws, acc, hw, hl => by
    rw [List.length_cons, Nat.add_mul] at hl
    have wl := hw w List.mem_cons_self
    have ll := longer_len T w
    have h6 := h.hi
    have ih := lw1_e h lev found x3 h3 ws (acc ++ T.longer w) (fun v hv => hw v (List.mem_cons_of_mem _ hv)) (by rw [List.length_append]; omega)
    have e3 : setS (lwS T lev found x3 acc none) [(5, .str (txt w))] = lwS T lev found x3 acc (some (.frz (.str (txt w)))) := rfl
    have e4 : sExt 4 [] (eComp [6] (iAny (eOp dIx (eVar 0) (eC (.int 0)))) (tgN 6) (bT (eCall F__law_comes (aCons (eVar 0) (aCons (eSl (eVar 5) (pYes (eUn dNeg (eC (.int 1)))) pNo) (aCons (eOp dIx (eVar 6) (eC (.int 0))) aNil))))) (eOp dAdd (eVar 5) (eOp dIx (eVar 6) (eC (.int 0))))) (lwS T lev found x3 acc (some (.frz (.str (txt w))))) = .nx (lwS T lev found x3 (acc ++ T.longer w) (some (.frz (.str (txt w))))) := by
      have v : ∃ y3, view [] (lwS T lev found x3 acc (some (.frz (.str (txt w))))) = [some T.d, some lev, none, y3, none, some (.str (txt w)), none] := by
        rcases h3 with rfl | ⟨i, rfl⟩
        · exact ⟨_, rfl⟩
        · exact ⟨_, rfl⟩
      obtain ⟨y3, v⟩ := v
      rw [sExt_e, eLs_e, v, ext_e h wl]
      rcases h3 with rfl | ⟨i, rfl⟩ <;> simp [lwS, txs, show acc.length + (T.longer w).length ≤ 16777215 by omega]
    rw [List.map_cons, forL_cons, tgN_e, forT_ok, e3, B__law_words_1_u, need_to rfl e4, forK_nx]
    have e5 : clr [5, 6] (lwS T lev found x3 (acc ++ T.longer w) (some (.frz (.str (txt w))))) = lwS T lev found x3 (acc ++ T.longer w) none := rfl
    rw [e5, ih]
    unfold Tg.step
    rw [List.flatMap_cons, List.append_assoc]
def lwT (T : Tg) (lev : List (List Nat)) (found : D) : Env := [some (.frz T.d), some (.frz (txs lev)), some (.own false found), none, none, none, none]
theorem lw2_e {T : Tg} (h : Good T) (n : Nat) (hn : n + 1 ≤ T.long) : ∃ ρ', B__law_words_2 (setS (lwT T (T.level n) (txs ((T.upto n).filter T.isW))) [(3, .int (n : Nat))]) = .nx ρ' ∧ clr [3, 4, 5, 6] ρ' = lwT T (T.level (n + 1)) (txs ((T.upto (n + 1)).filter T.isW)) := by
  have h8 := h.l1
  have h6 := h.hi
  have b1 := level_few h (n := n) (by omega)
  have b2 := level_few h (n := n + 1) hn
  have b3 := upto_le T h6 n
  have b4 := six (n := n) (by omega)
  have b7 := List.length_filter_le T.isW (T.upto n)
  have b8 := List.length_filter_le T.isW (T.level (n + 1))
  have e1 := lw1_e h (txs (T.level n)) (txs ((T.upto n).filter T.isW)) (some (.frz (.int (n : Nat)))) (.inr ⟨_, rfl⟩) (T.level n) [] (fun w hw => by rw [level_w T n w hw]; omega) (by rw [List.length_nil]; omega)
  rw [List.nil_append, show T.step (T.level n) = T.level (n + 1) from rfl] at e1
  have c1 : ∀ x2 x3 x4 : Option D, eComp [5] (iAny (eVar 1)) (tgN 5) (bT (eCall F__law_is_word (aCons (eVar 0) (aCons (eVar 5) aNil)))) (eVar 5) [some T.d, some (txs (T.level (n + 1))), x2, x3, x4, none, none] = .ok (txs ((T.level (n + 1)).filter T.isW)) := by
    intro x2 x3 x4
    refine eComp_map (F := fun w => .str (txt w)) _ _ (by simp) (by omega) fun w hw => ⟨_, rfl, by simp, ?_, fun _ => ?_⟩
    · simp [is_word_e h hn hw]
    · simp
  rw [B__law_words_2_u]
  refine ⟨[some (.frz T.d), some (.frz (txs (T.level (n + 1)))), some (.own false (txs ((T.upto (n + 1)).filter T.isW))), some (.frz (.int (n : Nat))), some (.frz (txs (T.level (n + 1)))), none, none], ?_, rfl⟩
  refine seq_to (ρ' := lwS T (txs (T.level n)) (txs ((T.upto n).filter T.isW)) (some (.frz (.int (n : Nat)))) [] none) (by simp [lwT, lwS]) ?_
  refine seq_to (for_to (ds := (T.level n).map fun w => .str (txt w)) (ρ' := lwS T (txs (T.level n)) (txs ((T.upto n).filter T.isW)) (some (.frz (.int (n : Nat)))) [] none) (by simp [lwS]) (by simp [lwS]) e1) ?_
  refine seq_to (ρ' := [some (.frz T.d), some (.frz (txs (T.level (n + 1)))), some (.own false (txs ((T.upto n).filter T.isW))), some (.frz (.int (n : Nat))), some (.frz (txs (T.level (n + 1)))), none, none]) (by simp [lwS]) ?_
  refine need_to rfl ?_
  have v : view [] [some (.frz T.d), some (.frz (txs (T.level (n + 1)))), some (.own false (txs ((T.upto n).filter T.isW))), some (.frz (.int (n : Nat))), some (.frz (txs (T.level (n + 1)))), none, none] = [some T.d, some (txs (T.level (n + 1))), none, some (.int (n : Nat)), some (txs (T.level (n + 1))), none, none] := rfl
  rw [sExt_e, eLs_e, v, c1, upto_isW]
  simp [show ((T.upto n).filter T.isW).length + ((T.level (n + 1)).filter T.isW).length ≤ 16777215 by omega]
theorem lw3_e {T : Tg} (h : Good T) : ∀ (m n : Nat), n + m = T.long → forL (tgN 3) B__law_words_2 [3, 4, 5, 6] ((List.range' n m).map fun i => D.int (i : Nat)) (lwT T (T.level n) (txs ((T.upto n).filter T.isW))) = .nx (lwT T (T.level T.long) (txs T.words))
  | 0, n, e => by
    have : n = T.long := by omega
    subst this
    rfl
  | m + 1, n, e => by
    obtain ⟨ρ', e1, e2⟩ := lw2_e h n (by omega)
    rw [List.range'_succ, List.map_cons, forL_cons, tgN_e, forT_ok, e1, forK_nx, e2]
    exact lw3_e h m (n + 1) (by omega)
theorem law_words_e {T : Tg} (h : Good T) : F__law_words [T.d] = .ok (txs T.words) := by
  have h8 := h.l1
  have e2 := rng_e T.long (by omega)
  have e1 := lw3_e h T.long 0 (by omega)
  show outR (B__law_words [some (.frz T.d), none, none, none, none, none, none]) = _
  have : B__law_words [some (.frz T.d), none, none, none, none, none, none] = .rt (txs T.words) [some (.frz T.d), some (.frz (txs (T.level T.long))), some (.frz (txs T.words)), none, none, none, none] := by
    rw [B__law_words_u]
    refine seq_to (ρ' := [some (.frz T.d), some (.frz (txs [[]])), none, none, none, none, none]) (by
      have e0 : (Str.ofString "" : Str) = txt [] := rfl
      simp [e0]) ?_
    refine seq_to (ρ' := lwT T [[]] (txs [])) (by simp [lwT]) ?_
    refine seq_to (for_to (ds := (List.range' 0 T.long).map fun i => D.int (i : Nat)) (ρ' := lwT T [[]] (txs [])) (by
      have ix : dIx T.d (.int 3) = .ok (.int T.long) := by simp [Tg.d]
      simp [lwT, ix, e2]) (by simp [lwT]) e1) ?_
    simp [lwT]
  rw [this]
  rfl
end Du

namespace Du
open PySem PySem.Spec PyProof.Rows L2 Dear
/-! ### a good tongue is like itself -/
theorem Price.ly {p : D} (h : Price p) : Ly 1 p := by
  obtain ⟨x, y, rfl, _⟩ := h
  exact .tup (forall_cons .int (forall_cons .int forall_nil))
theorem one_asc {c : Nat} (h : c < 128) : Asc [c] := fun x hx => by rw [List.mem_singleton.mp hx]; exact h
theorem Good.ly {T : Tg} (h : Good T) : Ly 4 T.d := by
  have as : ∀ {c : Nat}, c ∈ T.signs.map (·.1) → c < 128 := fun hc => by
    obtain ⟨r, hr, rfl⟩ := List.mem_map.mp hc
    have := (h.row r hr).hi
    omega
  have key : ∀ (l : List (List Nat)), (∀ v ∈ l, ∀ c ∈ v, c ∈ T.signs.map (·.1)) → Ly 3 (txs l) := fun l hl => .txts fun v hv c hc => as (hl v hv c hc)
  refine .tup (forall_cons (.lst fun d hd => ?_) (forall_cons (key _ fun v hv c hc => ?_) (forall_cons (key _ fun v hv c hc => ?_) (forall_cons .int forall_nil))))
  · obtain ⟨r, hr, rfl⟩ := List.mem_map.mp hd
    have g := h.row r hr
    refine .tup (forall_cons (.txt (one_asc (by have := g.hi; omega))) (forall_cons g.pr.ly (forall_cons ?_ forall_nil)))
    rcases g.la with e | e
    · rw [e]; exact .non
    · exact e.ly
  · obtain ⟨a, e, m⟩ := h.fs v hv
    subst e
    rw [List.mem_singleton.mp hc]
    exact m
  · obtain ⟨a, b, e, m1, m2⟩ := h.ps v hv
    subst e
    rcases List.mem_cons.mp hc with e | hc
    · rw [e]; exact m1
    · rw [List.mem_singleton.mp hc]; exact m2
end Du

namespace Du
open PySem PySem.Spec PyProof.Rows L2 Dear
/-! ### texts of which none begins another -/
theorem starts_e (a b : List Nat) : Txt.startswith (txt a) (txt b) = decide (b <+: a) := by
  unfold Txt.startswith
  rw [PySem.StrLaws.subAt_eq, txt_list, txt_list, txt_length, txt_length, List.drop_zero, Nat.zero_add]
  by_cases h : b <+: a
  · rw [decide_eq_true h, decide_eq_true h.length_le, ← List.prefix_iff_eq_take.mp h]
    simp
  · rw [decide_eq_false h]
    have n : (a.take b.length == b) = false := by
      simp only [beq_eq_false_iff_ne, ne_eq]
      exact fun e => h (List.prefix_iff_eq_take.mpr e.symm)
    rw [n, Bool.and_false]
def Apart (a b : List Nat) : Prop := ¬ a <+: b ∧ ¬ b <+: a
theorem Apart.symm {a b : List Nat} (h : Apart a b) : Apart b a := ⟨h.2, h.1⟩
theorem Apart.ne {a b : List Nat} (h : Apart a b) : a ≠ b := fun e => h.1 (by rw [e]; exact List.prefix_refl b)
theorem Apart.tail {c : Nat} {a b : List Nat} (h : Apart (c :: a) (c :: b)) : Apart a b := ⟨fun z => h.1 (List.cons_prefix_cons.mpr ⟨rfl, z⟩), fun z => h.2 (List.cons_prefix_cons.mpr ⟨rfl, z⟩)⟩
theorem apart_perm {l m : List (List Nat)} (p : l.Perm m) : l.Pairwise Apart ↔ m.Pairwise Apart := p.pairwise_iff fun {_ _} h => h.symm
theorem cutD_post {α : Type} {xs : List α} {j : Nat} (h : j ≤ xs.length) : cutD xs (some (j : Int)) none = xs.drop j := by
  unfold cutD
  rw [HT.sIx_none, HT.sIx_nat, Nat.min_eq_left h, List.take_of_length_le (by rw [List.length_drop]; exact Nat.le_refl _)]
/-- the first of which l goes before: two texts by the first place at which they are unlike -/
def aheadN (rk : Nat → Nat) : List Nat → List Nat → Bool
  | x :: a, y :: b => if x = y then aheadN rk a b else decide (rk x < rk y)
  | _, _ => false
theorem ahead_irr (rk : Nat → Nat) : ∀ a, aheadN rk a a = false
  | [] => rfl
  | x :: a => by
    unfold aheadN
    rw [if_pos rfl]
    exact ahead_irr rk a
theorem ahead_trans (rk : Nat → Nat) : ∀ {a b c : List Nat}, aheadN rk a b = true → aheadN rk b c = true → aheadN rk a c = true
  | [], _, _, h, _ => by cases h
  | _ :: _, [], _, h, _ => by cases h
  | _ :: _, _ :: _, [], _, h => by cases h
  | x :: a, y :: b, z :: c, h1, h2 => by
    unfold aheadN at h1 h2 ⊢
    by_cases e1 : x = y
    · rw [if_pos e1] at h1
      by_cases e2 : y = z
      · rw [if_pos e2] at h2
        rw [if_pos (e1.trans e2)]
        exact ahead_trans rk h1 h2
      · rw [if_neg e2] at h2
        rw [if_neg (by rw [e1]; exact e2), e1]
        exact h2
    · rw [if_neg e1] at h1
      have l1 := of_decide_eq_true h1
      by_cases e2 : y = z
      · rw [if_neg (by rw [← e2]; exact e1), ← e2]
        exact h1
      · rw [if_neg e2] at h2
        have l2 := of_decide_eq_true h2
        rw [if_neg (fun e => by subst e; omega)]
        exact decide_eq_true (by omega)
theorem ahead_total {rk : Nat → Nat} {S : List Nat} (inj : ∀ x ∈ S, ∀ y ∈ S, rk x = rk y → x = y) : ∀ {a b : List Nat}, Apart a b → (∀ c ∈ a, c ∈ S) → (∀ c ∈ b, c ∈ S) → (aheadN rk a b = !aheadN rk b a)
  | [], b, h, _, _ => absurd (List.nil_prefix) h.1
  | _ :: _, [], h, _, _ => absurd (List.nil_prefix) h.2
  | x :: a, y :: b, h, ha, hb => by
    unfold aheadN
    by_cases e : x = y
    · subst e
      rw [if_pos rfl, if_pos rfl]
      exact ahead_total inj h.tail (fun c hc => ha c (List.mem_cons_of_mem _ hc)) fun c hc => hb c (List.mem_cons_of_mem _ hc)
    · rw [if_neg e, if_neg fun z => e z.symm]
      have ne : rk x ≠ rk y := fun z => e (inj x (ha x List.mem_cons_self) y (hb y List.mem_cons_self) z)
      by_cases l : rk x < rk y
      · rw [decide_eq_true l, decide_eq_false (by omega)]; rfl
      · rw [decide_eq_false l, decide_eq_true (by omega)]; rfl
end Du

namespace Du
open PySem PySem.Spec PyProof.Rows L2 Dear
/-! ### author B's world: a tongue, and a book of its words -/
theorem level_codes {T : Tg} : ∀ {n : Nat} {w : List Nat}, w ∈ T.level n → ∀ c ∈ w, c ∈ T.codes
  | 0, w, hw, c, hc => by
    rw [List.mem_singleton.mp (show w ∈ [[]] from hw)] at hc
    cases hc
  | n + 1, w, hw, c, hc => by
    obtain ⟨v, r, hv, hr, _, rfl⟩ := level_mem hw
    rcases List.mem_append.mp hc with m | m
    · exact level_codes hv c m
    · rw [List.mem_singleton.mp m]
      exact List.mem_map.mpr ⟨r, hr, rfl⟩
theorem upto_level {T : Tg} : ∀ {n : Nat} {w : List Nat}, w ∈ T.upto n → ∃ m, m < n ∧ w ∈ T.level (m + 1)
  | 0, _, h => by cases h
  | n + 1, w, h => by
    rcases List.mem_append.mp (show w ∈ T.upto n ++ T.level (n + 1) from h) with h | h
    · obtain ⟨m, h1, h2⟩ := upto_level h
      exact ⟨m, by omega, h2⟩
    · exact ⟨n, by omega, h⟩
theorem words_ok {T : Tg} (h : Good T) {w : List Nat} (hw : w ∈ T.words) : w.length ≤ 8 ∧ (∀ c ∈ w, c ∈ T.codes) ∧ ∃ v c, w = v ++ [c] ∧ T.ends c = true := by
  obtain ⟨h1, h2⟩ := List.mem_filter.mp hw
  obtain ⟨m, h3, h4⟩ := upto_level h1
  have := h.l1
  refine ⟨by rw [level_w T _ w h4]; omega, level_codes h4, ?_⟩
  obtain ⟨v, r, _, _, _, rfl⟩ := level_mem h4
  rw [isW_snoc] at h2
  exact ⟨v, r.1, rfl, h2⟩
theorem codes_asc {T : Tg} (h : Good T) {w : List Nat} (hw : ∀ c ∈ w, c ∈ T.codes) : Asc w := fun c hc => by
  obtain ⟨r, hr, rfl⟩ := List.mem_map.mp (hw c hc)
  have := (h.row r hr).hi
  omega
theorem clashes_e {B : List (List Nat)} {w : List Nat} (hl : B.length ≤ 20) (ha : ∀ v ∈ B, Asc v) : ∃ b, F__law_clashes [txs B, .str (txt w)] = .ok (.bl b) ∧ (B = [] → b = false) ∧ (b = false → ∀ v ∈ B, ¬ v <+: w ∧ ¬ w <+: v) := by
  let p : List Nat → Bool := fun v => Txt.startswith (txt v) (txt w) || Txt.startswith (txt w) (txt v)
  have c := eComp_map (F := fun v => D.str (txt v)) (tg := tgN 2) (c := bOr (bT (eM isStr dStarts (eVar 2) (aCons (eVar 1) aNil))) (bT (eM isStr dStarts (eVar 1) (aCons (eVar 2) aNil)))) (f := eVar 2) (ρ := [some (txs B), some (.str (txt w)), none]) (vs := [2]) (it := iAny (eVar 0)) (l := B) p (fun v => D.str (txt v)) (by simp) (by omega) (fun v _ => ⟨_, rfl, by simp, by
    have e1 : eM isStr dStarts (eVar 2) (aCons (eVar 1) aNil) [some (txs B), some (.str (txt w)), some (.str (txt v))] = .ok (.bl (Txt.startswith (txt v) (txt w))) := by
      rw [eM_of2 (a := .str (txt v)) (as := [.str (txt w)]) rfl rfl rfl]
      rfl
    have e2 : eM isStr dStarts (eVar 1) (aCons (eVar 2) aNil) [some (txs B), some (.str (txt w)), some (.str (txt v))] = .ok (.bl (Txt.startswith (txt w) (txt v))) := by
      rw [eM_of2 (a := .str (txt w)) (as := [.str (txt v)]) rfl rfl rfl]
      rfl
    show bOr (bT (eM isStr dStarts (eVar 2) (aCons (eVar 1) aNil))) (bT (eM isStr dStarts (eVar 1) (aCons (eVar 2) aNil))) [some (txs B), some (.str (txt w)), some (.str (txt v))] = .ok (Txt.startswith (txt v) (txt w) || Txt.startswith (txt w) (txt v))
    rw [bOr_e, bT_e, e1, bd_ok, dTru_bl, bd_ok]
    unfold borC
    rw [bT_e, e2, bd_ok, dTru_bl]
    cases Txt.startswith (txt v) (txt w) <;> rfl, fun _ => rfl⟩)
  refine ⟨!((B.filter p).map fun v => D.str (txt v)).isEmpty, ?_, (fun e => by rw [e]; rfl), fun e v hv => ?_⟩
  rotate_left
  · have e0 : B.filter p = [] := by
      cases q : B.filter p with
      | nil => rfl
      | cons x y => rw [q] at e; cases e
    have pv : p v = false := by
      cases q : p v with
      | false => rfl
      | true => exact absurd (List.mem_filter.mpr ⟨hv, q⟩) (by rw [e0]; exact List.not_mem_nil)
    have pv : (Txt.startswith (txt v) (txt w) || Txt.startswith (txt w) (txt v)) = false := pv
    rw [Bool.or_eq_false_iff, starts_e, starts_e] at pv
    exact ⟨of_decide_eq_false pv.2, of_decide_eq_false pv.1⟩
  show outR (B__law_clashes [some (.frz (txs B)), some (.frz (.str (txt w))), none]) = _
  have v : view [] [some (.frz (txs B)), some (.frz (.str (txt w))), none] = [some (txs B), some (.str (txt w)), none] := rfl
  rw [B__law_clashes_u, sRet_e, v, eOp_e, c, eLst_e, aNil_e, bd_ok, lstC_e (by decide), op2_ok, dNe_nil (fun d hd => by
    obtain ⟨x, hx, rfl⟩ := List.mem_map.mp hd
    exact .txt (ha x (List.mem_filter.mp hx).1)), atR_ok]
  rfl
theorem pick_near {n : Nat} {near k : Int} (h0 : 0 ≤ near) (h1 : near < n) (k0 : 0 ≤ k) (k1 : k < 3) : ∃ z : Nat, z < n ∧ atI [D.int near, .int ((n : Int) - 1 - near), .int ((n : Int) - 1 - near)] k = some (.int (z : Nat)) := by
  rw [atI_nat k0]
  have : k = 0 ∨ k = 1 ∨ k = 2 := by omega
  obtain ⟨a, rfl⟩ : ∃ a : Nat, near = a := ⟨near.toNat, by omega⟩
  have e : ((n : Int) - 1 - (a : Int)) = ((n - 1 - a : Nat) : Int) := by omega
  rw [e]
  rcases this with rfl | rfl | rfl
  · exact ⟨a, by omega, rfl⟩
  · exact ⟨n - 1 - a, by omega, rfl⟩
  · exact ⟨n - 1 - a, by omega, rfl⟩
def wlS (ns : List Int) (T : Tg) (W B : List (List Nat)) (x4 x5 x6 x7 : Option Slot) : Env := [some (.frz (.scr ns)), some (.frz T.d), some (.frz (txs W)), some (.own false (txs B)), x4, x5, x6, x7, none, none, none]
theorem wl1_e {ns : List Int} (hl : ns.length ≤ 63) {T : Tg} {W : List (List Nat)} (w0 : W ≠ []) (wl : W.length ≤ 9000000) (wa : ∀ v ∈ W, Asc v) {B : List (List Nat)} (bl : B.length ≤ 20) (bw : ∀ v ∈ B, v ∈ W) (bp : B.Pairwise fun a b => ¬ a <+: b ∧ ¬ b <+: a) {i : Nat} (hi : i ≤ 100) :
    ∃ B' ρ', B__law_world_1 (setS (wlS ns T W B none none none none) [(4, .int (i : Nat))]) = .nx ρ' ∧ clr [4, 5, 6, 7] ρ' = wlS ns T W B' none none none none ∧ B' ≠ [] ∧ B'.length ≤ 20 ∧ (∀ v ∈ B', v ∈ W) ∧ B'.Pairwise fun a b => ¬ a <+: b ∧ ¬ b <+: a := by
  obtain ⟨c, ec⟩ := cell_e ns hl i
  obtain ⟨s, es, hs⟩ := sourceB_e c i hi
  have wp : 0 < W.length := List.length_pos_iff.mpr w0
  obtain ⟨k1, s1, e1, a0, a1, hs1⟩ := draw_e (m := (W.length : Int)) (by omega) (by omega) hs
  obtain ⟨k2, s2, e2, b0, b1, hs2⟩ := draw_e (m := 1 + k1) (by omega) (by omega) hs1
  obtain ⟨k3, s3, e3, c0, c1, hs3⟩ := draw_e (m := 3) (by decide) (by decide) hs2
  obtain ⟨z, hz, ez⟩ := pick_near (n := W.length) b0 (by omega) c0 c1
  have ew : W[z]? = some W[z] := List.getElem?_eq_getElem hz
  have iw := dIx_at (F := fun v => D.str (txt v)) ew
  generalize W[z] = w at ew iw
  have mw : w ∈ W := List.mem_of_getElem? ew
  obtain ⟨b, eb, hb, hap⟩ := clashes_e (w := w) bl fun v hv => wa v (bw v hv)
  have head : ∀ ρ', (sIf [3] (bAnd (bT (eOp dLt (eCall dLen (aCons (eVar 3) aNil)) (eC (.int 20)))) (bNot (bT (eCall F__law_clashes (aCons (eVar 3) (aCons (eVar 7) aNil)))))) (need 3 (sApp 3 [] (eVar 7))) sPass) (wlS ns T W B (some (.frz (.int (i : Nat)))) (some (.own false s3)) (some (.frz (.int k2))) (some (.frz (.str (txt w))))) = .nx ρ' →
      B__law_world_1 (setS (wlS ns T W B none none none none) [(4, .int (i : Nat))]) = .nx ρ' := by
    intro ρ' h
    rw [B__law_world_1_u]
    refine seq_to (ρ' := wlS ns T W B (some (.frz (.int (i : Nat)))) (some (.own false s)) none none) (by
      obtain ⟨a, b, rfl, _, _⟩ := hs
      simp [wlS, ec, es]) ?_
    refine seq_to (ρ' := wlS ns T W B (some (.frz (.int (i : Nat)))) (some (.own false s2)) (some (.frz (.int k2))) none) (by
      have le : dLen [.lst (W.map fun v => D.str (txt v))] = .ok (.int (W.length : Nat)) := by rw [dLen_lst (by rw [List.length_map]; omega), List.length_map]
      simp [wlS, le, e1, e2]) ?_
    refine seq_to (ρ' := wlS ns T W B (some (.frz (.int (i : Nat)))) (some (.own false s3)) (some (.frz (.int k2))) (some (.frz (.str (txt w))))) (by
      have le : dLen [.lst (W.map fun v => D.str (txt v))] = .ok (.int (W.length : Nat)) := by rw [dLen_lst (by rw [List.length_map]; omega), List.length_map]
      have v : view [] (wlS ns T W B (some (.frz (.int (i : Nat)))) (some (.own false s2)) (some (.frz (.int k2))) none) = [some (.scr ns), some T.d, some (txs W), none, some (.int (i : Nat)), none, some (.int k2), none, none, none, none] := rfl
      rw [asgM_to (d := .str (txt w)) (ρ' := wlS ns T W B (some (.frz (.int (i : Nat)))) (some (.own false s3)) (some (.frz (.int k2))) none) (by
        have p1 : (mP [] (eLst (aCons (eVar 6) (aCons (eOp dSub (eOp dSub (eCall dLen (aCons (eVar 2) aNil)) (eC (.int 1))) (eVar 6)) (aCons (eOp dSub (eOp dSub (eCall dLen (aCons (eVar 2) aNil)) (eC (.int 1))) (eVar 6)) aNil))))) (wlS ns T W B (some (.frz (.int (i : Nat)))) (some (.own false s2)) (some (.frz (.int k2))) none) = .ok (.lst [.int k2, .int ((W.length : Int) - 1 - k2), .int ((W.length : Int) - 1 - k2)]) (wlS ns T W B (some (.frz (.int (i : Nat)))) (some (.own false s2)) (some (.frz (.int k2))) none) := by
          simp [wlS, le]
        have p2 : (mIO 0 5 F__law_draw (mAP [] (aCons (eC (.int 3)) aNil))) (wlS ns T W B (some (.frz (.int (i : Nat)))) (some (.own false s2)) (some (.frz (.int k2))) none) = .ok (.int k3) (wlS ns T W B (some (.frz (.int (i : Nat)))) (some (.own false s3)) (some (.frz (.int k2))) none) := by
          simp [wlS, e3]
        have p0 : mP [] (eVar 2) (wlS ns T W B (some (.frz (.int (i : Nat)))) (some (.own false s2)) (some (.frz (.int k2))) none) = .ok (txs W) (wlS ns T W B (some (.frz (.int (i : Nat)))) (some (.own false s2)) (some (.frz (.int k2))) none) := by
          simp [wlS]
        have i1 : dIx (.lst [.int k2, .int ((W.length : Int) - 1 - k2), .int ((W.length : Int) - 1 - k2)]) (.int k3) = .ok (.int (z : Nat)) := by
          rw [dIx_lst, ez]
          rfl
        rw [mOp_e, p0, md_ok, mOp1_e, mOp_e, p1, md_ok, mOp1_e, p2, md_ok, mOp2_e, i1, lift_ok, md_ok, mOp2_e]
        show lift _ (dIx (.lst (W.map fun v => D.str (txt v))) (.int (z : Nat))) = _
        rw [iw]
        rfl)]
      rfl) ?_
    exact h
  have ll : dLen [.lst (B.map fun v => D.str (txt v))] = .ok (.int (B.length : Nat)) := by rw [dLen_lst (by rw [List.length_map]; omega), List.length_map]
  have vw : view [3] (wlS ns T W B (some (.frz (.int (i : Nat)))) (some (.own false s3)) (some (.frz (.int k2))) (some (.frz (.str (txt w))))) = [some (.scr ns), some T.d, some (txs W), some (txs B), some (.int (i : Nat)), none, some (.int k2), some (.str (txt w)), none, none, none] := rfl
  by_cases c : B.length < 20 ∧ b = false
  · obtain ⟨c, rfl⟩ := c
    refine ⟨B ++ [w], wlS ns T W (B ++ [w]) (some (.frz (.int (i : Nat)))) (some (.own false s3)) (some (.frz (.int k2))) (some (.frz (.str (txt w)))), head _ ?_, rfl, by simp, by rw [List.length_append, List.length_singleton]; omega, fun v hv => ?_, ?_⟩
    · have t : (bAnd (bT (eOp dLt (eCall dLen (aCons (eVar 3) aNil)) (eC (.int 20)))) (bNot (bT (eCall F__law_clashes (aCons (eVar 3) (aCons (eVar 7) aNil)))))) [some (.scr ns), some T.d, some (txs W), some (txs B), some (.int (i : Nat)), none, some (.int k2), some (.str (txt w)), none, none, none] = .ok true := by
        have c' : (B.length : Int) < 20 := by omega
        simp [ll, eb, c']
      rw [sIf_e, vw, t, atR_ok, ifC_t]
      refine need_to rfl ?_
      have fit : (B.map fun v => D.str (txt v)).length ≤ 16777215 := by rw [List.length_map]; omega
      simp [wlS, appF_e fit]
    · rcases List.mem_append.mp hv with m | m
      · exact bw v m
      · rw [List.mem_singleton.mp m]; exact mw
    · rw [List.pairwise_append]
      exact ⟨bp, List.pairwise_singleton _ _, fun x hx y hy => by rw [List.mem_singleton.mp hy]; exact hap rfl x hx⟩
  · refine ⟨B, wlS ns T W B (some (.frz (.int (i : Nat)))) (some (.own false s3)) (some (.frz (.int k2))) (some (.frz (.str (txt w)))), head _ ?_, rfl, fun e => c ⟨by rw [e]; decide, hb e⟩, bl, bw, bp⟩
    have t : (bAnd (bT (eOp dLt (eCall dLen (aCons (eVar 3) aNil)) (eC (.int 20)))) (bNot (bT (eCall F__law_clashes (aCons (eVar 3) (aCons (eVar 7) aNil)))))) [some (.scr ns), some T.d, some (txs W), some (txs B), some (.int (i : Nat)), none, some (.int k2), some (.str (txt w)), none, none, none] = .ok false := by
      by_cases c' : (B.length : Int) < 20
      · have : b = true := by
          cases b with
          | true => rfl
          | false => exact absurd ⟨by omega, rfl⟩ c
        subst this
        simp [ll, eb, c']
      · simp [ll, c']
    rw [sIf_e, vw, t, atR_ok, ifC_f]
    rfl
theorem wl2_e {ns : List Int} (hl : ns.length ≤ 63) {T : Tg} {W : List (List Nat)} (w0 : W ≠ []) (wl : W.length ≤ 9000000) (wa : ∀ v ∈ W, Asc v) : ∀ (l : List Nat) (B : List (List Nat)), (∀ i ∈ l, i + 2 ≤ 100) → B.length ≤ 20 → (∀ v ∈ B, v ∈ W) → (B.Pairwise fun a b => ¬ a <+: b ∧ ¬ b <+: a) → (l = [] → B ≠ []) →
    ∃ B', forL (tgN 4) B__law_world_1 [4, 5, 6, 7] (l.map fun i => .int ((i + 2 : Nat) : Int)) (wlS ns T W B none none none none) = .nx (wlS ns T W B' none none none none) ∧ B' ≠ [] ∧ B'.length ≤ 20 ∧ (∀ v ∈ B', v ∈ W) ∧ B'.Pairwise fun a b => ¬ a <+: b ∧ ¬ b <+: a
  | [], B, _, h1, h2, h4, h3 => ⟨B, rfl, h3 rfl, h1, h2, h4⟩
  | i :: l, B, hi, h1, h2, h4, _ => by
    obtain ⟨B1, ρ', e1, e2, n1, l1, m1, p1⟩ := wl1_e hl (T := T) w0 wl wa h1 h2 h4 (hi i List.mem_cons_self)
    obtain ⟨B2, e3, r⟩ := wl2_e hl (T := T) w0 wl wa l B1 (fun x hx => hi x (List.mem_cons_of_mem _ hx)) l1 m1 p1 fun _ => n1
    refine ⟨B2, ?_, r⟩
    rw [List.map_cons, forL_cons, tgN_e, forT_ok, e1, forK_nx, e2]
    exact e3
/-- the tongue all of whose signs end words, nothing barred -/
def Tg.open (T : Tg) : Tg := ⟨T.signs.map fun r => (r.1, r.2.1, r.2.1), [], [], T.long⟩
theorem open_codes {T : Tg} : T.open.codes = T.codes := by
  show (T.signs.map fun r => (r.1, r.2.1, r.2.1)).map (·.1) = T.signs.map (·.1)
  rw [List.map_map]
  rfl
theorem open_good {T : Tg} (h : Good T) : Good T.open := by
  refine ⟨by show 2 ≤ (T.signs.map _).length; rw [List.length_map]; exact h.lo, by show (T.signs.map _).length ≤ 6; rw [List.length_map]; exact h.hi, fun r hr => ?_, by
    have := h.nd
    rw [show T.open.signs.map (·.1) = T.signs.map (·.1) from open_codes]
    exact this, (fun _ h => nomatch h), .nil, (fun _ h => nomatch h), .nil, Nat.zero_le _, Nat.zero_le _, h.l0, h.l1⟩
  obtain ⟨x, hx, rfl⟩ := List.mem_map.mp hr
  have g := h.row x hx
  exact ⟨g.lo, g.hi, g.pr, .inr g.pr⟩
theorem open_words {T : Tg} (h : Good T) : T.open.words ≠ [] := by
  obtain ⟨r, rs, e⟩ : ∃ r rs, T.signs = r :: rs := by
    cases e : T.signs with
    | nil => have := h.lo; rw [e] at this; cases this
    | cons r rs => exact ⟨r, rs, rfl⟩
  have hr : (r.1, r.2.1, r.2.1) ∈ T.open.signs := List.mem_map.mpr ⟨r, by rw [e]; exact List.mem_cons_self, rfl⟩
  have m1 : [r.1] ∈ T.open.level 1 := List.mem_flatMap.mpr ⟨[], List.mem_singleton.mpr rfl, List.mem_map.mpr ⟨(r.1, r.2.1, r.2.1), List.mem_filter.mpr ⟨hr, rfl⟩, rfl⟩⟩
  have up : ∀ n, [r.1] ∈ T.open.upto (n + 1) := by
    intro n
    induction n with
    | zero => exact m1
    | succ n ih => exact List.mem_append_left _ ih
  have g := (h.row r (by rw [e]; exact List.mem_cons_self)).pr
  have en : T.open.ends r.1 = true := by
    refine List.any_eq_true.mpr ⟨_, hr, ?_⟩
    obtain ⟨x, y, e, _⟩ := g
    show (r.1 == r.1 && !isNon r.2.1) = true
    rw [e]
    simp
  have l0 := h.l0
  intro z
  have : [r.1] ∈ T.open.words := List.mem_filter.mpr ⟨by
    have := up (T.long - 1)
    rw [Nat.sub_add_cancel l0] at this
    exact this, by rw [show [r.1] = [] ++ [r.1] from rfl, isW_snoc]; exact en⟩
  rw [z] at this
  cases this
theorem words_few {T : Tg} (h : Good T) : T.words.length ≤ 4000000 := by
  have h1 := upto_le T h.hi T.long
  have h2 := six h.l1
  have h3 := List.length_filter_le T.isW (T.upto T.long)
  show ((T.upto T.long).filter T.isW).length ≤ _
  omega
theorem dRange_fromB {a n : Nat} (ha : a ≤ 1000) (h : n ≤ 1000) : dRange [.int (a : Nat), .int (n : Nat)] = .ok ((List.range (n - a)).map fun i => .int ((i + a : Nat) : Int)) := by
  rw [dRange2 (by omega) (by omega) (by omega) (by omega), show ((n : Int) - (a : Int)).toNat = n - a by omega]
  unfold rangeD
  congr 1
  exact List.map_congr_left fun i _ => by rw [Int.natCast_add, Int.add_comm]
theorem world_u (ns : List Int) : F__law_world [.scr ns] = outR (B__law_world [some (.frz (.scr ns)), none, none, none, none, none, none, none, none, none, none]) := by rfl
end Du

namespace Du
open PySem PySem.Spec PyProof.Rows L2 Dear
/-! ### k15: the law -/
theorem world_e (ns : List Int) (hl : ns.length ≤ 63) : ∃ (T : Tg) (B : List (List Nat)), F__law_world [.scr ns] = .ok (.tup [T.d, txs B]) ∧ Good T ∧ B ≠ [] ∧ B.length ≤ 20 ∧ (∀ v ∈ B, v ∈ T.words) ∧ B.Pairwise fun a b => ¬ a <+: b ∧ ¬ b <+: a := by
  obtain ⟨T0, et, h0, _⟩ := tongueB_e ns hl 0 6 (by decide) (by decide) (by decide) [8, 5, 4, 3, 3] (by decide) (by simp)
  have et' : F__law_tongue [.scr ns, .int 0, .int 6, .lst [.int 8, .int 5, .int 4, .int 3, .int 3]] = .ok T0.d := et
  obtain ⟨M, hM, m6, eM⟩ : ∃ M : Nat, M ≤ 63 ∧ 6 ≤ M ∧ (if (if (63 : Int) < (ns.length : Int) then (63 : Int) else (ns.length : Int)) > 6 then (if (63 : Int) < (ns.length : Int) then (63 : Int) else (ns.length : Int)) else 6) = (M : Nat) := by
    by_cases c1 : (63 : Int) < (ns.length : Int)
    · omega
    · by_cases c2 : (ns.length : Int) > 6
      · exact ⟨ns.length, by omega, by omega, by simp [c1, c2]⟩
      · exact ⟨6, by decide, by decide, by simp [c1, c2]⟩
  have r1 := dRange_fromB (a := 2) (n := M) (by decide) (by omega)
  have key : ∀ T, Good T → T.words ≠ [] → (∀ h : Env → Out, True) → ∃ B, B ≠ [] ∧ B.length ≤ 20 ∧ (∀ v ∈ B, v ∈ T.words) ∧ (B.Pairwise fun a b => ¬ a <+: b ∧ ¬ b <+: a) ∧
      (sSeq (sOwn 3 [] (eLst aNil)) (sSeq (sFor [] (iRange (aCons (eC (.int 2)) (aCons (eCall dMax2 (aCons (eC (.int 6)) (aCons (eCall dMin2 (aCons (eCall dLen (aCons (eVar 0) aNil)) (aCons (eC (.int 63)) aNil))) aNil))) aNil))) (tgN 4) B__law_world_1 [4, 5, 6, 7]) (sRet [3] (eTup (aCons (eVar 1) (aCons (eVar 3) aNil)))))) [some (.frz (.scr ns)), some (.frz T.d), some (.frz (txs T.words)), none, none, none, none, none, none, none, none] = .rt (.tup [T.d, txs B]) [some (.frz (.scr ns)), some (.frz T.d), some (.frz (txs T.words)), some (.frz (txs B)), none, none, none, none, none, none, none] := by
    intro T h w0 _
    obtain ⟨B, e1, n0, n1, mb, pb⟩ := wl2_e hl (T := T) w0 (Nat.le_trans (words_few h) (by decide)) (fun v hv => codes_asc h (words_ok h hv).2.1) (List.range (M - 2)) [] (fun i hi => by rw [List.mem_range] at hi; omega) (Nat.zero_le _) (fun _ h => nomatch h) .nil (fun e => by
      have : (List.range (M - 2)).length = 0 := by rw [e]; rfl
      rw [List.length_range] at this
      omega)
    refine ⟨B, n0, n1, mb, pb, ?_⟩
    refine seq_to (ρ' := wlS ns T T.words [] none none none none) (by
      rw [own_to (d := .lst []) (by rfl)]
      rfl) ?_
    refine seq_to (for_to (ds := (List.range (M - 2)).map fun i => .int ((i + 2 : Nat) : Int)) (ρ' := wlS ns T T.words [] none none none none) (by
      have v : view [] (wlS ns T T.words [] none none none none) = [some (.scr ns), some T.d, some (txs T.words), none, none, none, none, none, none, none, none] := rfl
      rw [v, iRange_e]
      simp only [aCons_e, aNil_e, eCall_e, eC_e]
      have l1 : eVar 0 [some (.scr ns), some T.d, some (txs T.words), none, none, none, none, none, none, none, none] = .ok (.scr ns) := rfl
      rw [l1, cons2_ok, bd_ok, dLen_scr (by omega), cons2_ok, cons2_ok, bd_ok, dMin2_e, cons2_ok, cons2_ok, bd_ok, dMax2_e, eM, cons2_ok, cons2_ok, bd_ok]
      exact r1) rfl e1) ?_
    have v : view [3] (wlS ns T T.words B none none none none) = [some (.scr ns), some T.d, some (txs T.words), some (txs B), none, none, none, none, none, none, none] := rfl
    rw [sRet_e, v]
    rfl
  have pre : ∀ (T : Tg) (o : Out), Good T → (T0.words ≠ [] → T = T0) → (T0.words = [] → T = T0.open) →
      (sSeq (sOwn 3 [] (eLst aNil)) (sSeq (sFor [] (iRange (aCons (eC (.int 2)) (aCons (eCall dMax2 (aCons (eC (.int 6)) (aCons (eCall dMin2 (aCons (eCall dLen (aCons (eVar 0) aNil)) (aCons (eC (.int 63)) aNil))) aNil))) aNil))) (tgN 4) B__law_world_1 [4, 5, 6, 7]) (sRet [3] (eTup (aCons (eVar 1) (aCons (eVar 3) aNil)))))) [some (.frz (.scr ns)), some (.frz T.d), some (.frz (txs T.words)), none, none, none, none, none, none, none, none] = o →
      B__law_world [some (.frz (.scr ns)), none, none, none, none, none, none, none, none, none, none] = o := by
    intro T o h t1 t2 e
    rw [B__law_world_u]
    refine seq_to (ρ' := [some (.frz (.scr ns)), some (.frz T0.d), none, none, none, none, none, none, none, none, none]) (by simp [et']) ?_
    refine seq_to (ρ' := [some (.frz (.scr ns)), some (.frz T0.d), some (.frz (txs T0.words)), none, none, none, none, none, none, none, none]) (by simp [law_words_e h0]) ?_
    refine seq_to (ρ' := [some (.frz (.scr ns)), some (.frz T.d), some (.frz (txs T.words)), none, none, none, none, none, none, none, none]) ?_ e
    have v : view [] [some (.frz (.scr ns)), some (.frz T0.d), some (.frz (txs T0.words)), none, none, none, none, none, none, none, none] = [some (.scr ns), some T0.d, some (txs T0.words), none, none, none, none, none, none, none, none] := rfl
    have c : bT (eOp dEq (eVar 2) (eLst aNil)) [some (.scr ns), some T0.d, some (txs T0.words), none, none, none, none, none, none, none, none] = .ok (decide (T0.words = [])) := by
      rw [bT_e, eOp_e, eLst_e, aNil_e, bd_ok, lstC_e (by decide)]
      show bd dTru (dEq (txs T0.words) (.lst [])) = _
      rw [dEq_nil (fun d hd => by
        obtain ⟨x, hx, rfl⟩ := List.mem_map.mp hd
        exact .txt (codes_asc h0 (words_ok h0 hx).2.1)), bd_ok, dTru_bl]
      cases T0.words <;> rfl
    rw [sIf_e, v, c, atR_ok]
    by_cases z : T0.words = []
    · have et2 := t2 z
      subst et2
      rw [decide_eq_true z, ifC_t]
      refine seq_to (ρ' := [some (.frz (.scr ns)), some (.frz T0.open.d), some (.frz (txs T0.words)), none, none, none, none, none, none, none, none]) ?_ ?_
      · rw [asg_to (d := T0.open.d) (by
          rw [v, eTup_e]
          simp only [aCons_e, aNil_e, eLst_e, bd_ok, eOp_e, eC_e]
          have cc : eComp [8, 9, 10] (iAny (eOp dIx (eVar 1) (eC (.int 0)))) (tgT [(tgN 8), (tgN 9), (tgN 10)]) bYes (eTup (aCons (eVar 8) (aCons (eVar 9) (aCons (eVar 9) aNil)))) [some (.scr ns), some T0.d, some (txs T0.words), none, none, none, none, none, none, none, none] = .ok (.lst (T0.signs.map fun r => .tup [.str (txt [r.1]), r.2.1, r.2.1])) := by
            have := h0.hi
            refine eComp_all (F := rowD) _ (by simp [Tg.d]) (by omega) fun r hr => ⟨_, rfl, rfl, ?_⟩
            rfl
          rw [cc, lstC_e (by decide)]
          show bd tupC (cons2 (.ok _) (cons2 (.ok _) (cons2 (.ok _) (cons2 (op2 dIx (.ok T0.d) (.ok (.int 3))) (.ok []))))) = _
          have d3 : dIx T0.d (.int 3) = .ok (.int (T0.long : Nat)) := by simp [Tg.d]
          rw [op2_ok, d3]
          show Res.ok (D.tup [.lst (T0.signs.map fun r => .tup [.str (txt [r.1]), r.2.1, r.2.1]), .lst [], .lst [], .int T0.long]) = _
          unfold Tg.open Tg.d
          rw [List.map_map]
          rfl)]
        rfl
      · simp [law_words_e h]
    · have et2 := t1 z
      subst et2
      rw [decide_eq_false z, ifC_f]
      rfl
  by_cases z : T0.words = []
  · obtain ⟨B, n0, n1, mb, pb, e⟩ := key T0.open (open_good h0) (open_words h0) fun _ => trivial
    refine ⟨T0.open, B, ?_, open_good h0, n0, n1, mb, pb⟩
    rw [world_u, pre T0.open _ (open_good h0) (fun n => absurd z n) (fun _ => rfl) e]
    rfl
  · obtain ⟨B, n0, n1, mb, pb, e⟩ := key T0 h0 z fun _ => trivial
    refine ⟨T0, B, ?_, h0, n0, n1, mb, pb⟩
    rw [world_u, pre T0 _ h0 (fun _ => rfl) (fun n => absurd n z) e]
    rfl
theorem copyB_e {T : Tg} : F__law_copy [T.d] = .ok T.d := by
  show outR (B__law_copy [some (.frz T.d)]) = _
  simp [B__law_copy_u, Tg.d]
theorem law18_u (ns : List Int) : F_law [.scr ns] = outR (B_law [some (.frz (.scr ns)), none, none, none]) := by rfl
theorem law_e (ns : List Int) (hl : ns.length ≤ 63) : F_law [.scr ns] = .ok (.bl true) := by
  obtain ⟨T, B, ew, h, n0, n20, mb, pb⟩ := world_e ns hl
  have tbk : ∀ B : List (List Nat), B ≠ [] → B.length ≤ 20 → (∀ v ∈ B, v ∈ T.words) → (B.Pairwise fun a b => ¬ a <+: b ∧ ¬ b <+: a) → TbOk T B := fun B n0 n20 mb pb => by
    refine ⟨h, n0, n20, fun v hv e => ?_, fun v hv => ?_, fun v hv => (words_ok h (mb v hv)).2.1, pb⟩
    · obtain ⟨_, _, u, c, e2, _⟩ := words_ok h (mb v hv)
      rw [e] at e2
      simp at e2
    · exact (words_ok h (mb v hv)).1
  have b := tbk B n0 n20 mb pb
  have b' := tbk B.reverse (by simpa using n0) (by rw [List.length_reverse]; exact n20) (fun v hv => mb v (List.mem_reverse.mp hv)) (List.pairwise_reverse.mpr (pb.imp fun z => ⟨z.2, z.1⟩))
  have r1 : F__law_right [T.d, txs B] = .ok (.bl true) := by
    unfold F__law_right
    exact if_pos ⟨(T, B), b, rfl⟩
  have r2 : F__law_right [T.d, txs B.reverse] = .ok (.bl true) := by
    unfold F__law_right
    exact if_pos ⟨(T, B.reverse), b', rfl⟩
  have de := dEq_self (h.ly.lay (by decide))
  have rv : dRev (txs B) = .ok (txs B.reverse) := by
    have : dRev (.lst (B.map fun v => D.str (txt v))) = .ok (.lst (B.map fun v => D.str (txt v)).reverse) := rfl
    rw [this, ← List.map_reverse]
  rw [law18_u]
  have : B_law [some (.frz (.scr ns)), none, none, none] = .rt (.bl true) [some (.frz (.scr ns)), some (.frz T.d), some (.frz (txs B)), some (.frz T.d)] := by
    rw [B_law_u]
    refine seq_to (ρ' := [some (.frz (.scr ns)), some (.frz T.d), some (.frz (txs B)), none]) (by simp [ew]) ?_
    refine seq_to (ρ' := [some (.frz (.scr ns)), some (.frz T.d), some (.frz (txs B)), some (.frz T.d)]) (by simp [copyB_e]) ?_
    generalize T.d = td at *
    generalize B.map (fun v => D.str (txt v)) = bd1 at *
    generalize B.reverse.map (fun v => D.str (txt v)) = bd2 at *
    simp [r1, r2, rv, de]
  rw [this]
  rfl
end Du

namespace Dear
open PySem PySem.Spec PyProof.Rows L2
/-- law's: a list of at most 63 ints is handed in, True comes out -/
def spLaw (K : PySem.W.Frag) : Sp := fun vs H Q _ => ∃ (a : Addr) (ns : List Int), vs = [.ref a] ∧ SqL K H a (ns.map V.int) ∧ ns.length ≤ 63 ∧ ∀ H', Q (.bl true) H'
end Dear

namespace Dear
open PySem PySem.Spec PyProof.Rows L2
theorem ok_law {P : Program} {w : World} {K : PySem.W.Frag} {mg : Str → Option Value} {base : Heap} (T : Txt K mg) {f : Addr} {fd : FuncData} (F : L2.Fun K "law" "law" s_law f fd) : FnOk P w K mg base CX0 20 f fd ["_law_script"] (spLaw K) := (Du.law_of (Du.ok_law T F) Du.law_e).mono (by decide)
end Dear

namespace Dear
open PySem PySem.Spec PyProof.Rows L2
theorem walk {l : PySem.W.OpenLaw} {q : Program} {loose : List Str} {XP : (Str → Option Value) → Heap → Prop} {YP : World → Heap → Prop} {d : DefRec} {K : Params → PySem.W.Frag} (hn : l.most = some 63) (hdf : d.params.defaults = [])
    (hY : ∀ (w : World) (h : Heap), YP w h → (K w.params).In h)
    (F : ∀ (w : World) (mg : Str → Option Value) (fa : Addr) (h : Heap), (K w.params).In h → h.Ns mainGlobals mg → mg d.name = some (.ref fa) →
      ∃ fd : FuncData, (∀ (s : Shared) (u : Value), BindsTo s fd ⟨[u], []⟩ [("_law_script", u)]) ∧ ∀ base : Heap, (K w.params).In base → base.Ns mainGlobals mg → FnOk l.prog w (K w.params) mg base CX0 20 fa fd ["_law_script"] (spLaw (K w.params))) :
    PySem.W.WalkO q loose XP YP l.row.toRowW d [] (fun f vs => PySem.call f vs) :=
  L2.walk_of (n := 63) (k := 20) (x := "_law_script") (CX := fun _ => CX0) (sp := fun w => spLaw (K w.params)) hn (by decide) hdf ⟨rfl, by decide, by decide⟩ hY F (fun _ _ a ns hl _ hS => ⟨a, ns, rfl, hS, hl, fun _ => rfl⟩) fun _ _ _ _ _ z => z
theorem fin {l : PySem.W.OpenLaw} {w : World} {K : PySem.W.Frag} {h : Heap} {mg : Str → Option Value} {fa : Addr} (X : K.In h) (G : h.Ns mainGlobals mg) (hfa : mg "law" = some (.ref fa)) (T : Txt K mg) :
    ∃ fd : FuncData, (∀ (s : Shared) (v : Value), BindsTo s fd ⟨[v], []⟩ [("_law_script", v)]) ∧ ∀ base : Heap, K.In base → base.Ns mainGlobals mg → FnOk l.prog w K mg base CX0 20 fa fd ["_law_script"] (spLaw K) := by
  obtain ⟨f, fd, hm, F, hb⟩ := id T.f_law
  have e := hfa.symm.trans hm
  cases e
  refine ⟨fd, fun s v => ?_, fun base _ _ => (ok_law T F).mono (by decide)⟩
  obtain ⟨oc, od, kV, doc, pm, an, cdv, ct, osl, rfl, lk, hcd⟩ := F.ex
  exact .of_eq rfl
end Dear

open PySem PySem.W PyProof.Rows
set_option maxRecDepth 100000 in
set_option maxHeartbeats 0 in
theorem PySem.Challenge.cw_dearsigns_k15_trees_of_books_holds : PySem.Challenge.rw_dearsigns_k15_trees_of_books.Holds := by
  w_on; o_law; k_head; (case hw => w_witness2)
  k_fill
  refine Dear.walk (l := PySem.Challenge.rw_dearsigns_k15_trees_of_books) rfl rfl (fun w h Y => PySem.W.kIn_of Y) ?F
  case F =>
    intro w mg fa h KX G hmg
    refine Dear.fin KX G hmg ?T
    case T =>
      refine' Dear.txt_mk KX G ?g_DearError ?i_DearError ?t_DearError ?g_NoTongue ?i_NoTongue ?t_NoTongue ?b_DearError ?q_NoTongue_DearError ?n_NoTongue_DearError ?q_NoTongue_NoTongue ?q_NoTongue_ValueError ?a1 ?l1 ?c1 ?k1 ?a2 ?l2 ?c2 ?k2 ?a3 ?l3 ?c3 ?k3 ?a4 ?l4 ?c4 ?k4 ?a5 ?l5 ?c5 ?k5 ?a6 ?l6 ?c6 ?k6 ?a7 ?l7 ?c7 ?k7 ?a8 ?l8 ?c8 ?k8 ?a9 ?l9 ?c9 ?k9 ?a10 ?l10 ?c10 ?k10 ?a11 ?l11 ?c11 ?k11 ?a12 ?l12 ?c12 ?k12 ?a13 ?l13 ?c13 ?k13 ?a14 ?l14 ?c14 ?k14 ?a15 ?l15 ?c15 ?k15 ?a16 ?l16 ?c16 ?k16 ?a17 ?l17 ?c17 ?k17 ?a18 ?l18 ?c18 ?k18 ?a19 ?l19 ?c19 ?k19 ?a20 ?l20 ?c20 ?k20 ?a21 ?l21 ?c21 ?k21 ?a22 ?l22 ?c22 ?k22 ?a23 ?l23 ?c23 ?k23 ?a24 ?l24 ?c24 ?k24 ?a25 ?l25 ?c25 ?k25 ?a26 ?l26 ?c26 ?k26 ?a27 ?l27 ?c27 ?k27 ?a28 ?l28 ?c28 ?k28 ?a29 ?l29 ?c29 ?k29 ?a30 ?a31 ?a32 ?a33 ?a34 ?a35 ?a36 ?a37 ?a38 ?a39 ?a40 ?a41 ?a42 ?a43 ?a44 ?a45 ?a46 ?a47 ?a48
      (case g_DearError => k_is); (case i_DearError => k_is); (case t_DearError => k_is); (case g_NoTongue => k_is); (case i_NoTongue => k_is); (case t_NoTongue => k_is); (case b_DearError => k_is); (case q_NoTongue_DearError => k_is)
      (case n_NoTongue_DearError => rfl); (case q_NoTongue_NoTongue => k_is); (case q_NoTongue_ValueError => k_is); (case a1 => k_is); (case l1 => k_is); (case c1 => k_is); (case k1 => k_is); (case a2 => k_is)
      (case l2 => k_is); (case c2 => k_is); (case k2 => k_is); (case a3 => k_is); (case l3 => k_is); (case c3 => k_is); (case k3 => k_is); (case a4 => k_is)
      (case l4 => k_is); (case c4 => k_is); (case k4 => k_is); (case a5 => k_is); (case l5 => k_is); (case c5 => k_is); (case k5 => k_is); (case a6 => k_is)
      (case l6 => k_is); (case c6 => k_is); (case k6 => k_is); (case a7 => k_is); (case l7 => k_is); (case c7 => k_is); (case k7 => k_is); (case a8 => k_is)
      (case l8 => k_is); (case c8 => k_is); (case k8 => k_is); (case a9 => k_is); (case l9 => k_is); (case c9 => k_is); (case k9 => k_is); (case a10 => k_is)
      (case l10 => k_is); (case c10 => k_is); (case k10 => k_is); (case a11 => k_is); (case l11 => k_is); (case c11 => k_is); (case k11 => k_is); (case a12 => k_is)
      (case l12 => k_is); (case c12 => k_is); (case k12 => k_is); (case a13 => k_is); (case l13 => k_is); (case c13 => k_is); (case k13 => k_is); (case a14 => k_is)
      (case l14 => k_is); (case c14 => k_is); (case k14 => k_is); (case a15 => k_is); (case l15 => k_is); (case c15 => k_is); (case k15 => k_is); (case a16 => k_is)
      (case l16 => k_is); (case c16 => k_is); (case k16 => k_is); (case a17 => k_is); (case l17 => k_is); (case c17 => k_is); (case k17 => k_is); (case a18 => k_is)
      (case l18 => k_is); (case c18 => k_is); (case k18 => k_is); (case a19 => k_is); (case l19 => k_is); (case c19 => k_is); (case k19 => k_is); (case a20 => k_is)
      (case l20 => k_is); (case c20 => k_is); (case k20 => k_is); (case a21 => k_is); (case l21 => k_is); (case c21 => k_is); (case k21 => k_is); (case a22 => k_is)
      (case l22 => k_is); (case c22 => k_is); (case k22 => k_is); (case a23 => k_is); (case l23 => k_is); (case c23 => k_is); (case k23 => k_is); (case a24 => k_is)
      (case l24 => k_is); (case c24 => k_is); (case k24 => k_is); (case a25 => k_is); (case l25 => k_is); (case c25 => k_is); (case k25 => k_is); (case a26 => k_is)
      (case l26 => k_is); (case c26 => k_is); (case k26 => k_is); (case a27 => k_is); (case l27 => k_is); (case c27 => k_is); (case k27 => k_is); (case a28 => k_is)
      (case l28 => k_is); (case c28 => k_is); (case k28 => k_is); (case a29 => k_is); (case l29 => k_is); (case c29 => k_is); (case k29 => k_is); (case a30 => k_is)
      (case a31 => k_is); (case a32 => k_is); (case a33 => k_is); (case a34 => k_is); (case a35 => k_is); (case a36 => k_is); (case a37 => k_is); (case a38 => k_is)
      (case a39 => k_is); (case a40 => k_is); (case a41 => k_is); (case a42 => k_is); (case a43 => k_is); (case a44 => k_is); (case a45 => k_is); (case a46 => k_is)
      (case a47 => k_is); (case a48 => k_is)
#print axioms PySem.Challenge.cw_dearsigns_k15_trees_of_books_holds

