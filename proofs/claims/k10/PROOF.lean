import PyProof.Rows.All
import Wide.All
import OpenK.AllK
import Wide.FinOn
import HandS.ForMost
import HandS.Wide
import HandS.IsInst
import HandS.Flow
import HandS.Walk
import HandS.Strs
import HandS.Style
import HandS.Exc
import HandS.Codes
import HandS.ForExc
import HandS.ExcIs
import HandS.Defaults
import HandS.ExcInit
import HandS.FStr
import HandS.ExcField
import Flt.Len
import PySem.Challenge.RW_dearsigns_k10_wants_and_none
set_option Elab.async false
set_option linter.all false
set_option maxRecDepth 100000
set_option maxHeartbeats 4000000

namespace Dear
open PySem PySem.Spec PyProof.Rows L2
/-! ### a def of the text, and a def with its promise -/
def Df (K : PySem.W.Frag) (mg : Str → Option Value) (x : Str) (st : Stmt) (ps : List Str) : Prop :=
  ∃ (f : Addr) (fd : FuncData), mg x = some (.ref f) ∧ Fun K x x st f fd ∧ Binds K fd ps []
def OkF (P : Program) (w : World) (K : PySem.W.Frag) (mg : Str → Option Value) (base : Heap) (CX : CXT) (k : Nat) (x : Str) (ps : List Str) (sp : Sp) : Prop :=
  ∃ (f : Addr) (fd : FuncData), mg x = some (.ref f) ∧ PySem.W.keepIn K (.ref f) = true ∧ Binds K fd ps [] ∧ FnOk P w K mg base CX k f fd ps sp
section
variable {P : Program} {w : World} {K : PySem.W.Frag} {mg : Str → Option Value} {base : Heap}
theorem Df.ok {x : Str} {st : Stmt} {N ps : List Str} {k : Nat} {sp : Sp} (D : Df K mg x st ps) (S : FnScope N ps (defScope st)) (len : ∀ vs H Q E, sp vs H Q E → vs.length = ps.length)
    (hbody : ∀ (f : Addr) (cdv : Value) (A : Around) (outer : List Env) (s : Shared) (H : Hp) (vs : List V) (Q : VK) (E : XK), Room k (A.deeper (envOfC x (defScope st) s.heap.objs.size f cdv)) → sp vs H Q E →
      ∃ t, PSs (cxOf CX0 P w K mg base N x (defScope st) f cdv A outer s H E).nox (defBody st) t ∧ t { nx := fun _ H' => Q .non H', rt := Q } (start N vs) H) : OkF P w K mg base CX0 (k + 1) x ps sp := by
  obtain ⟨f, fd, hm, F, hb⟩ := D
  exact ⟨f, fd, hm, F.kp, hb, F.ok S len (hbody f)⟩
end
section
variable {X : Cx}
theorem pe_c {k k' : Nat} {x : Str} {ps : List Str} {sp : Sp} {e : Expr} {es : List Expr} {t : TA} {p pos : Pos} (O : OkF X.prog X.w X.K X.mg X.base CX0 k x ps sp) (hr : Room k' X.A) (ha : PA X (e :: es) t) (hk : k ≤ k' := by decide) (hg : Gl X x := by rfl)
    (hdb : (x == ("__debug__" : Str)) = false := by decide) (he : starEach (e :: es) X.env = (false, eval e X.env) :: starEach es X.env := by rfl) (hpl : (backTo pos (starEach es X.env)).any (·.1) = false := by rfl) :
    PE X (.Call (.Name x p) (e :: es) [] pos) (tCall sp [] E0 t) := by
  obtain ⟨f, fd, hm, hkp, hb, F⟩ := O
  exact pe_call F (hr.mono hk) hg hm hkp hb .nil pass0 ha hdb he hpl
theorem pe_gi {x : Str} {i : Int} {pos : Pos} (h : ∃ t, X.mg x = some (.int i t)) (hg : Gl X x := by rfl) (hd : (x == ("__debug__" : Str)) = false := by decide) : PE X (.Name x pos) (tC (.int i)) := by
  obtain ⟨t, h⟩ := h
  exact pe_glob hg h ⟨_, rfl⟩ hd
theorem pe_gs {x : Str} {z : Str} {pos : Pos} (h : ∃ t, X.mg x = some (.str z t)) (hg : Gl X x := by rfl) (hd : (x == ("__debug__" : Str)) = false := by decide) : PE X (.Name x pos) (tC (.str z)) := by
  obtain ⟨t, h⟩ := h
  exact pe_glob hg h ⟨_, rfl⟩ hd
end
/-! ### the rules with the written part K named -/
section
variable {X : Cx} (K : PySem.W.Frag)
theorem ix_list_k (h : X.K = K := by rfl) : IxR X (rIxL K) := h ▸ ix_list
theorem ix_tup_k (h : X.K = K := by rfl) : IxR X (rIxT K) := h ▸ ix_tup
theorem sl_list_k (h : X.K = K := by rfl) : SlR X (rSlL K) := h ▸ sl_list
theorem sl_tup_k (h : X.K = K := by rfl) : SlR X (rSlT K) := h ▸ sl_tup
theorem op_in_seq_k (h : X.K = K := by rfl) : OpR X (compareOp .In) (rIn K false) := h ▸ op_in_seq
theorem op_notIn_seq_k (h : X.K = K := by rfl) : OpR X (compareOp .NotIn) (rIn K true) := h ▸ op_notIn_seq
def rLen : List V → Hp → VK → Prop := fun xs H Q => ∃ p ys, xs = [.ref p] ∧ (SqL K H p ys ∨ SqT K H p ys) ∧ Q (.int ys.length) H
theorem call_len_seq_k (h : X.K = K := by rfl) : CallR X (.builtin "len") (rLen K) := h ▸ call_len_seq
def rListOf : List V → Hp → VK → Prop := fun xs H Q => ∃ p ys, xs = [.ref p] ∧ (SqL K H p ys ∨ SqT K H p ys) ∧ ∀ l, H l = none → Q (.ref l) (upd H l (.lst ys))
theorem call_list_of_k (h : X.K = K := by rfl) : CallR X (.type "list") (rListOf K) := h ▸ call_list_of
def rTupOf : List V → Hp → VK → Prop := fun xs H Q => ∃ p ys, xs = [.ref p] ∧ ((SqL K H p ys ∧ ∀ l, H l = none → Q (.ref l) (upd H l (.tup ys))) ∨ (SqT K H p ys ∧ Q (.ref p) H))
theorem call_tuple_of_k (h : X.K = K := by rfl) : CallR X (.type "tuple") (rTupOf K) := h ▸ call_tuple_of
theorem cr_sum_k (hc : X.calm = true) (h : X.K = K := by rfl) : CallR X (.builtin "sum") (rSum K) := h ▸ cr_sum hc
theorem cr_max_k (hc : X.calm = true) (h : X.K = K := by rfl) : CallR X (.builtin "max") (rMax K) := h ▸ cr_max hc
theorem cr_min_k (hc : X.calm = true) (h : X.K = K := by rfl) : CallR X (.builtin "min") (rMin K) := h ▸ cr_min hc
theorem cr_any_k (hc : X.calm = true) (h : X.K = K := by rfl) : CallR X (.builtin "any") (rAny K) := h ▸ cr_any hc
theorem cr_all_k (hc : X.calm = true) (h : X.K = K := by rfl) : CallR X (.builtin "all") (rAll K) := h ▸ cr_all hc
theorem cr_sorted_k (h : X.K = K := by rfl) : CallR X (.builtin "sorted") (rSorted K) := h ▸ cr_sorted
theorem mt_index_k (h : X.K = K := by rfl) : MtR X "list.index" (rIndex K) := h ▸ mt_index
theorem op_eqD_k (hu : X.A.units + 64 < cLine) (h : X.K = K := by rfl) : OpR X (compareOp .Eq) (rEqD K) := h ▸ op_eqD hu
theorem op_neD_k (hu : X.A.units + 64 < cLine) (h : X.K = K := by rfl) : OpR X (compareOp .NotEq) (rNeD K) := h ▸ op_neD hu
theorem call_isi_k (h : X.K = K := by rfl) : CallR X (.builtin "isinstance") (rIsi K) := h ▸ call_isi
theorem call_isiT_k (h : X.K = K := by rfl) : CallR X (.builtin "isinstance") (rIsiT K) := h ▸ call_isiT
theorem op_catT_k (h : X.K = K := by rfl) : OpR X (binaryOp .Add) (rCatT K) := h ▸ op_catT
theorem pi_list_k {tg l : Expr} {tl : TE} (hl : PE X l tl) (h : X.K = K := by rfl) : PI X tg l (iList K tl) := h ▸ pi_list hl
theorem pi_tup_k {tg l : Expr} {tl : TE} (hl : PE X l tl) (h : X.K = K := by rfl) : PI X tg l (iTup K tl) := h ▸ pi_tup hl
theorem pe_revL_k {e : Expr} {te : TE} {k : Nat} {p1 p2 p3 pos : Pos} (he : PE X e te) (h : X.K = K := by rfl) : PE X (.Subscript e (.Slice none none (some (.UnaryOp .USub (.Constant (.int 1) k p1) p2)) p3) pos) (tRevL K te) := h ▸ pe_revL he
theorem pg_tup_k {es : List Expr} {k : Nat} {t : TGs} {n : Nat} {pos : Pos} (hc : X.calm = true) (hg : PGs X es t) (h : X.K = K := by rfl)
    (hn : (assignEach es X.env).length = n := by rfl) (hst : (assignEach es X.env).findIdx? (·.1) = none := by rfl) : PG X (.Tuple es k pos) (gTup K n t) := h ▸ pg_tup hc hg hn hst
def rDictP : List V → Hp → VK → Prop := fun xs H Q => ∃ (a : Addr) (ps : List Addr) (kvs : List (Key × V)), xs = [.ref a] ∧ SqL K H a (ps.map V.ref) ∧ Paired (fun p kv => SqT K H p [kV kv.1, kv.2]) ps kvs ∧
    ∀ p, H p = none → Q (.ref p) (upd H p (.dK (mergeK [] kvs)))
theorem call_dictP_k (hc : X.calm = true) (h : X.K = K := by rfl) : CallR X (.type "dict") (rDictP K) := h ▸ call_dictP hc
theorem u1 {n : Nat} (h : n + 64 < cLine) : n + 1 < cLine := by omega
def rJoin : V → List V → Hp → VK → Prop := fun x xs H Q => ∃ a p, ∃ ys : List Str, x = .str a ∧ xs = [.ref p] ∧ (SqL K H p (ys.map V.str) ∨ SqT K H p (ys.map V.str)) ∧ (ys.map (·.length)).sum + ys.length * a.length ≤ 16777216 ∧ Q (.str (Txt.join a ys)) H
theorem pe_join_k {o e : Expr} {to te : TE} {apos pos : Pos} (ho : PE X o to) (he : PE X e te) (h : X.K = K := by rfl) (hs : starEach [e] X.env = [(false, eval e X.env)] := by rfl) (hbase : attributeBase o "join" X.env (eval o X.env) = eval o X.env := by rfl) (hline : (apos.endLine == pos.line) = true := by rfl) :
    PE X (.Call (.Attribute o "join" apos) [e] [] pos) (tM1 (rJoin K) to te) := h ▸ pe_join ho he hs hbase hline
end
/-! ### heaps -/
/-- all that was tracked, but for what stands at l, is as it was -/
def But (l : Addr) (H H' : Hp) : Prop := ∀ b o, H b = some o → b ≠ l → H' b = some o
theorem But.refl (l : Addr) (H : Hp) : But l H H := fun _ _ h _ => h
theorem But.trans {l : Addr} {H H1 H2 : Hp} (a : But l H H1) (b : But l H1 H2) : But l H H2 := fun c o h n => b c o (a c o h n) n
theorem But.of {l : Addr} {H H1 : Hp} (a : Same H H1) : But l H H1 := fun c o h _ => a c o h
theorem But.upd {l : Addr} {H : Hp} {o : HO} : But l H (upd H l o) := fun b _ h n => by rw [upd_ne n]; exact h
theorem Same.upd {H : Hp} {l : Addr} {o : HO} (h : H l = none) : Same H (upd H l o) := fun b u e => by
  rw [upd_ne (ne_of_none e h)]
  exact e
theorem But.new {l : Addr} {H H1 : Hp} {p : Addr} {o : HO} (a : But l H H1) (h : H1 p = none) : But l H (L2.upd H1 p o) := a.trans (.of (Same.upd h))
theorem Same.new {H H1 : Hp} {p : Addr} {o : HO} (a : Same H H1) (h : H1 p = none) : Same H (L2.upd H1 p o) := a.trans (Same.upd h)
/-- the ends of an if -/
theorem itb {b : Bool} {A B : Prop} (h1 : b = true → A) (h2 : b = false → B) : if b = true then A else B := by
  cases b with
  | true => exact iteT (h1 rfl)
  | false => exact iteF (h2 rfl)
theorem itd {c : Prop} [Decidable c] {A B : Prop} (h1 : c → A) (h2 : ¬ c → B) : if decide c = true then A else B := itb (fun h => h1 (of_decide_eq_true h)) fun h => h2 (of_decide_eq_false h)
theorem itnd {c : Prop} [Decidable c] {A B : Prop} (h1 : ¬ c → A) (h2 : c → B) : if (!decide c) = true then A else B := itb (fun h => h1 (by simpa using h)) fun h => h2 (by simpa using h)
/-! ### readings, step by step -/
section
variable {σ : L2.St} {H : Hp} {D : Ends} {t1 t2 : TS} {te : TE} {i : Nat} {c : TT}
theorem s_seq (h : t1 { D with nx := t2 D } σ H) : tSeq t1 t2 D σ H := h
theorem s_set (h : te σ H fun v H' => D.nx (σ.set i (some v)) H') : tAsg te (gName i) D σ H := h
theorem s_ret (h : te σ H D.rt) : tRet te D σ H := h
theorem s_if (h : c σ H fun b H' => if b = true then t1 D σ H' else t2 D σ H') : tIfS c t1 t2 D σ H := h
theorem s_op {r : R2} {ta tb : TE} {Q : VK} (h : ta σ H fun x H1 => tb σ H1 fun y H2 => r x y H2 Q) : tOp r ta tb σ H Q := h
theorem s_nx (h : D.nx σ H) : tNext D σ H := h
end
end Dear

namespace Dear
open PySem PySem.Spec PyProof.Rows L2
/-! ### an exception that is caught, kept in a name, and asked behind the suite -/
/-- a kept exception at a: its class, its own dict -/
def ExK (cls : Value) (d : Option Addr) (a : Addr) : HO := .ext fun h => ∃ (oe : Obj) (vs : Array Value), h.get? a = some oe ∧ Zc cls d oe ∧ oe.data = .fields vs
theorem exK_ok {P : Program} {w : World} {H : Hp} {h : Heap} {a : Addr} {cls : Value} {d : Option Addr} {oe : Obj} {vs : Array Value} (e : h.get? a = some oe) (z : Zc cls d oe) (dt : oe.data = .fields vs) : ObjOk P w H h a (ExK cls d a) :=
  ⟨⟨oe, vs, e, z, dt⟩, ⟨oe, e⟩, fun _ _ ⟨o, v, q, r⟩ k => ⟨o, v, k o q, r⟩⟩
section
variable {X : Cx} {pins : List (Addr × Obj)} {σ : L2.St} {H : Hp} {s : Shared}
/-- an object that stands there untracked, new since the entry, becomes tracked -/
theorem track (I : Inv X pins σ H s) {a : Addr} {o : HO} {oe : Obj} (he : s.heap.get? a = some oe) (na : H a = none) (n0 : X.s_0.heap.get? a = none) (nL : a ≠ X.env.locals) (nC : ∀ v, oe.data ≠ .cell v)
    (nP : ∀ p ∈ X.pn ++ pins, p.1 ≠ a) (new : ObjOk X.prog X.w (upd H a o) s.heap a o) : Inv X pins σ (upd H a o) s where
  ok := I.ok
  os := I.os
  bare := I.bare
  base := {
    keep := I.base.keep
    slot := I.base.slot
    free := fun b u q n hx => by
      rw [upd_ne fun z => by rw [z, n0] at q; cases q]
      exact I.base.free b u q n hx
    there := I.base.there
    tups := fun b xs q => by
      have z := I.base.tups b xs q
      rw [upd_ne (ne_of_none z na)]
      exact z
    frzs := fun b u v q => by
      have z := I.base.frzs b u v q
      rw [upd_ne (ne_of_none z na)]
      exact z
    tbls := fun b ps q => by
      obtain ⟨m, z⟩ := I.base.tbls b ps q
      exact ⟨m, by rw [upd_ne (ne_of_none z na)]; exact z⟩ }
  loc := I.loc
  cell := I.cell
  free := by rw [upd_ne (Ne.symm nL)]; exact I.free
  freeC := fun x c e => by
    have ne : c ≠ a := fun z => by
      obtain ⟨v, ob, q, dq⟩ := I.cell x c e
      rw [z, he] at q
      cases q
      exact nC v dq
    rw [upd_ne ne]
    exact I.freeC x c e
  pin := fun p hp => by
    obtain ⟨p1, p2, p3⟩ := I.pin p hp
    exact ⟨p1, by rw [upd_ne (nP p hp)]; exact p2, p3⟩
  hok := fun b u e => by
    by_cases hb : b = a
    · subst hb
      rw [upd_same] at e
      cases e
      exact new
    · rw [upd_ne hb] at e
      exact (I.hok b u e).stay (fun _ _ _ q => q) (fun c q => by rw [upd_ne (ne_of_none q na)]; exact q) fun c xs q => by rw [upd_ne (ne_of_none q na)]; exact q
  len := I.len
end
/-- what «except x as n: y = n» wishes of an exception of the body: n's slot is i, y's is j; behind it the exception stands tracked -/
def wKept (K : PySem.W.Frag) (c : Value) (i j : Nat) (Wout : WX) (D : Ends) : WX := fun cls d σ H =>
  ∃ b, PySem.W.exmOne K cls c = some b ∧ (b = true → ∀ a, H a = none → D.nx (((σ.set i (some (.ref a))).set j (some (.ref a))).set i none) (upd H a (ExK cls d a))) ∧ (b = false → Wout cls d σ H)
section
variable {X : Cx} {x n y : Str} {c : Value} {i j : Nat} {body : List Stmt} {np pos pos2 p3 p4 p5 : Pos} {tb : WX → TS} {Wout : WX}
theorem ps_try_kept (hs : X.stack = X.env :: X.outer) (hf : X.env.frame = some X.env.locals) (hex : X.ex = []) (hN : X.N.Nodup) (hi : X.N[i]? = some n) (hj : X.N[j]? = some y) (hij : i ≠ j) (hln : X.env.kindOf n = some .local) (hly : X.env.kindOf y = some .local) (hc : Names X x c) (tk : Takes X Wout)
    (hb : ∀ (W : WX) (pn : List (Addr × Obj)) (xe : Value → Shared → Prop), Takes (X.tr pn xe) W → PassesOwn (model X.prog X.w) X.A X.env xe → PSs (X.tr pn xe) body (tb W))
    (hdn : (n == ("__debug__" : Str)) = false := by decide) (hcd : (n == ("__classdict__" : Str)) = false := by decide) :
    PS X (.Try body [.ExceptHandler (some (.Name x np)) (some n) [.Assign [.Name y p3] (.Name n p4) p5] pos2] [] [] pos) (fun D σ H => tb (wKept X.K c i j Wout D) D σ H) := by
  refine ⟨fun pins s σ H D I h => ?_⟩
  have ok := I.ok
  have frames : X.A.frames = some (X.env :: X.outer) := by rw [ok.frames, hs]
  refine wpAny_Try_except (wpAny_mono ((hb (wKept X.K c i j Wout D) (X.pn ++ pins) _ (fun u s1 air => ?_) PassesOwn.looking).run [] s σ H D (I.toTry _) h) (fun f s1 done => ?_) fun _ _ z => z)
  · obtain ⟨a, B, sI, pins', σ1, H1, cls, d, rfl, J1, nb, up, sky, na, os, ag, b, hm, yes, no⟩ := air
    have J : Inv X pins σ1 H1 sI := J1.ofTry ok
    rw [show X.stack = X.env :: X.outer from hs] at sky
    refine Sky.land Zc.steady frames hf sky fun h3 fl3 up3 => ?_
    have J3 : Inv X pins σ1 H1 { s1 with heap := h3 } := J.landed nb fl3.1 (up.trans up3) os ag
    obtain ⟨oe3, vs3, he3, hz3, hd3⟩ := fl3.there
    have nfr : a ∉ frs (X.env :: X.outer) := fun hm => by
      obtain ⟨_, o', e', hnf⟩ := fl3.2.2.1.mem hm
      rw [he3] at e'
      cases e'
      exact hnf _ hd3
    have nL : a ≠ X.env.locals := fun z => nfr (List.mem_filterMap.mpr ⟨X.env, List.mem_cons_self, by rw [hf, z]⟩)
    have nF : a ∉ X.fs := fun hm => by
      obtain ⟨e, he, q⟩ := List.mem_filterMap.mp hm
      exact nfr (List.mem_filterMap.mpr ⟨e, List.mem_cons_of_mem _ he, q⟩)
    -- it is new: neither there at the entry nor pinned
    have gone : ∀ o, sI.heap.get? a ≠ some o := fun o q => by
      have z := nb a o q (by rw [hs]; exact nfr)
      rw [fl3.2.1] at z
      cases z
    have n0 : X.s_0.heap.get? a = none := by
      cases q : X.s_0.heap.get? a with
      | none => rfl
      | some o =>
        obtain ⟨o', q'⟩ := J.base.there a o q (by rw [hex]; simp)
        exact absurd q' (gone o')
    have nP : ∀ p ∈ X.pn ++ pins, p.1 ≠ a := fun p hp z => gone p.2 (z ▸ (J.pin p hp).1)
    have S3 := J3.suite he3 hd3 na nL nF
    refine wpAny_handleBy_cons (codeAny_handlers_test ?_) (by intro q; cases q)
    have LT : PySem.W.Looks (model X.prog X.w) h3 (typeOf (.ref a)) cls := fun _ _ _ _ k q => wpAny_typeOf_ref (k _ _ he3) (by rw [hz3.1]; exact q)
    have LM := PySem.W.exm_one (M := model X.prog X.w) J3.kIn LT hm
    have named : ∀ {Q : Value → Shared → Prop} {E : Value → Shared → Prop}, Q c { s1 with heap := h3 } → wpAny (model X.prog X.w) (X.A.mark (some (.ref a))) (eval (.Name x np) X.env) Q E { s1 with heap := h3 } := fun {Q E} q => by
      obtain ⟨hg, hdbg, hm | ⟨hm, hv, hnn⟩⟩ := hc
      · exact ld_glob (X := X.suite a ((a, oe3) :: (X.pn ++ pins))) S3 hg hm q hdbg
      · exact ld_blt (X := X.suite a ((a, oe3) :: (X.pn ++ pins))) S3 hg hm hv q hnn hdbg
    refine named (LM.here ?_)
    cases b with
    | true =>
      refine codeAny_handlers_suite_as (HandSPX.lands_againZ fl3 fun h4 fl4 up4 => ?_)
      have J4 : Inv X pins σ1 H1 { s1 with heap := h4 } := J.landed nb fl4.1 ((up.trans up3).trans up4) os ag
      obtain ⟨oe4, vs4, he4, hz4, hd4⟩ := fl4.there
      refine store_ok (X := X.suite a ((a, oe4) :: (X.pn ++ pins))) (v := .ref a) (J4.suite he4 hd4 na nL nF) hN hi (.inl hln) rfl (fun s5 S5 => ?_) (.inr hln)
      have suite : PSs (X.suite a ((a, oe4) :: (X.pn ++ pins))) [.Assign [.Name y p3] (.Name n p4) p5] (tAsg (tVar i) (gName j)) := pss_one (ps_set hN hj (.inl hly) (pe_var hi (.inl hln) hdn hcd) (hf := .inr hly))
      have len1 : i < σ1.length := by
        rw [J.len]
        exact (List.getElem?_eq_some_iff.mp hi).1
      refine wpAny_mono (suite.run [] s5 _ H1 { nx := fun σ' H' => σ' = (σ1.set i (some (.ref a))).set j (some (.ref a)) ∧ H' = H1, rt := fun _ _ => False } S5 ⟨.ref a, by rw [List.getElem?_set_self len1], rfl, rfl⟩) (fun f s6 done => ?_) fun _ _ z => z.elim
      cases f with
      | next =>
        obtain ⟨σ6, H6, S6, rfl, rfl⟩ := done
        have he6 := (S6.pin (a, oe4) (List.mem_append_left _ List.mem_cons_self)).1
        refine gone_ok (track (S6.unsuite ok) (o := ExK cls d a) he6 na n0 nL (fun v q => by rw [hd4] at q; cases q) nP (exK_ok he6 hz4 hd4)) hN hi hln fun s7 J7 => ⟨_, _, J7, yes rfl a na⟩
      | brk =>
        obtain ⟨_, _, _, z⟩ := done
        exact z.elim
      | cont =>
        obtain ⟨_, _, _, z⟩ := done
        exact z.elim
      | ret u =>
        obtain ⟨_, _, _, _, _, z⟩ := done
        exact z.elim
    | false =>
      show wpAny _ X.A (handleBy (.ref a) X.env []) _ _ _
      refine wpAny_handleBy_nil ?_
      obtain ⟨_, _, _, oe, vs, T, _, _, he, _, hd, h1, _⟩ := id fl3
      unfold PySem.passOn
      refine wpAny_bind (wpAny_field he hd h1 ?_)
      rw [if_neg (show ¬ ((Value.ref T == Value.none) = true) from by simp)]
      have fin : wpAny (model X.prog X.w) X.A (setFlight (.ref a) X.env.frame) (fun _ s4 => wpAny (model X.prog X.w) X.A (throw (.ref a) : Sem Flow) (SP X pins D) X.xe s4) X.xe { s1 with heap := h3 } := by
        rw [hf]
        exact HandSPX.setFlight_upZ fl3 fun h4 hh4 up4 => wpAny_throw (tk _ _ ⟨a, B, sI, pins, σ1, H1, cls, d, rfl, J, nb, (up.trans up3).trans up4, .inr (.inr (by rw [hs]; exact hh4)), na, os, ag, no rfl⟩)
      first
        | exact wpAny_bind (wpAny_pure (wpAny_bind fin))
        | exact wpAny_bind fin
  · cases f with
    | next =>
      obtain ⟨σ', H', J', q⟩ := done
      exact wpAny_execs_nil ⟨σ', H', J'.ofTry ok, q⟩
    | brk =>
      obtain ⟨σ', H', J', q⟩ := done
      exact ⟨σ', H', J'.ofTry ok, q⟩
    | cont =>
      obtain ⟨σ', H', J', q⟩ := done
      exact ⟨σ', H', J'.ofTry ok, q⟩
    | ret u =>
      obtain ⟨v, σ', H', J', r, q⟩ := done
      exact ⟨v, σ', H', J'.ofTry ok, r, q⟩
end
/-! ### isinstance of a kept exception -/
/-- the object as the library's rules want it -/
theorem instAt_kept {h : Heap} {a D : Addr} {oe : Obj} {vs : Array Value} (e : h.get? a = some oe) (z : Zc (.ref D) none oe) (d : oe.data = .fields vs) : PySem.W.InstAt h a oe D none := by
  obtain ⟨oc, od, oda, osl⟩ := oe
  obtain ⟨h1, h2⟩ := z
  dsimp only at h1 h2 d
  subst h1 h2 d
  exact ⟨e, rfl, rfl, trivial⟩
def rIsX (K : PySem.W.Frag) : List V → Hp → VK → Prop := fun xs H Q => ∃ (a D : Addr) (c : V) (u : Value) (b : Bool), xs = [.ref a, c] ∧ H a = some (ExK (.ref D) none a) ∧ ExcC K D ∧ ClsV c u ∧ PySem.W.kitOne K (.ref D) u = some b ∧ Q (.bl b) H
def rIsXT (K : PySem.W.Frag) : List V → Hp → VK → Prop := fun xs H Q => ∃ (a D tp : Addr) (cs : List V) (us : List Value) (b : Bool), xs = [.ref a, .ref tp] ∧ H a = some (ExK (.ref D) none a) ∧ ExcC K D ∧ H tp = some (.tup cs) ∧ Paired ClsV cs us ∧ PySem.W.kitAny K (.ref D) us = some b ∧ Q (.bl b) H
section
variable {X : Cx} (K : PySem.W.Frag)
theorem call_isX_k (hk : X.K = K := by rfl) : CallR X (.builtin "isinstance") (rIsX K) := by
  subst hk
  intro pins s σ H xs us Q I r h
  obtain ⟨a, D, c, u, b, rfl, ha, C, k, e, q⟩ := h
  obtain ⟨u1, u2, rfl, r1, r2⟩ := vals2 r
  have e2 := k.eq r2
  subst e2
  cases r1
  obtain ⟨⟨oe, vs, he, hz, hd⟩, _⟩ := I.hok a _ ha
  exact PySem.W.kia_one (PySem.W.handS_kitx_exc C.hg C.hk C.hs C.hd C.ha C.hn C.ht C.hm) I.kIn (instAt_kept he hz hd) e (fun z => nomatch z) fun tk => ⟨.bl b, H, I.tok tk, rfl, q⟩
theorem call_isXT_k (hk : X.K = K := by rfl) : CallR X (.builtin "isinstance") (rIsXT K) := by
  subst hk
  intro pins s σ H xs us Q I r h
  obtain ⟨a, D, tp, cs, ws, b, rfl, ha, C, hT, k, e, q⟩ := h
  obtain ⟨u1, u2, rfl, r1, r2⟩ := vals2 r
  cases r1
  cases (show u2 = Value.ref tp from r2)
  obtain ⟨⟨oe, vs, he, hz, hd⟩, _⟩ := I.hok a _ ha
  obtain ⟨_, its, rv, o, h1, h2, n, h3⟩ := (show ObjOk X.prog X.w H s.heap tp (.tup cs) from I.hok tp _ hT)
  have e3 := ClsV.all k rv
  subst e3
  obtain ⟨oc, od, dt, sl⟩ := o
  simp only at h2 h3
  subst h2 h3
  exact PySem.W.kia_tup (PySem.W.handS_kitx_exc C.hg C.hk C.hs C.hd C.ha C.hn C.ht C.hm) I.kIn (instAt_kept he hz hd) h1 e (fun z => nomatch z) fun tk => ⟨.bl b, H, I.tok tk, rfl, q⟩
end
/-! ### facts of own exception classes, calls of defs that raise, defs with defaults -/
/-- an own exception class over ValueError, without an own __init__ -/
structure ExOwn (K : PySem.W.Frag) (mg : Str → Option Value) (x : Str) (C : Addr) : Prop where
  g : mg x = some (.ref C)
  x : PySem.W.excIn K C [.type "ValueError", .type "Exception", .type "BaseException", .type "object"] "ValueError.__new__" = true
  k : PySem.W.keepIn K (.ref C) = true
  b : PySem.W.subIn K (.ref C) (.type "BaseException") = some true
  t : PySem.W.typeIn K (.ref C) = some (.type "type")
  c : ExcC K C
theorem kit_ref {K : PySem.W.Frag} {A C : Addr} {b : Bool} (n : (Value.ref A == Value.ref C) = false) (i : PySem.W.isClsIn K C = true) (t : PySem.W.typeIn K (.ref C) = some (.type "type")) (q : PySem.W.subIn K (.ref A) (.ref C) = some b) : PySem.W.kitOne K (.ref A) (.ref C) = some b := by
  unfold PySem.W.kitOne
  rw [if_neg (by rw [n]; exact Bool.false_ne_true)]
  have i' : (PySem.W.clsIn K C).isSome = true := i
  show (if ((PySem.W.clsIn K C).isSome && PySem.W.typeIn K (.ref C) == some (.type "type")) = true then PySem.W.subIn K (.ref A) (.ref C) else none) = some b
  rw [i', t, if_pos (by simp)]
  exact q
theorem kit_self {K : PySem.W.Frag} {C : Addr} : PySem.W.kitOne K (.ref C) (.ref C) = some true := by
  unfold PySem.W.kitOne
  rw [if_pos (by simp)]
theorem kit_val {K : PySem.W.Frag} {A : Addr} (q : PySem.W.subIn K (.ref A) (.type "ValueError") = some true) : PySem.W.kitOne K (.ref A) (.type "ValueError") = some true := by
  unfold PySem.W.kitOne
  rw [if_neg (by simp)]
  have m : PySem.W.kitMeta "ValueError" = true := by decide +kernel
  show (if PySem.W.kitMeta "ValueError" = true then PySem.W.subIn K (.ref A) (.type "ValueError") else none) = some true
  rw [if_pos m]
  exact q
theorem exm_ref2 {K : PySem.W.Frag} {A C : Addr} {b : Bool} (h1 : PySem.W.subIn K (.ref C) (.type "BaseException") = some true) (i : PySem.W.isClsIn K C = true) (t : PySem.W.typeIn K (.ref C) = some (.type "type")) (q : PySem.W.subIn K (.ref A) (.ref C) = some b) : PySem.W.exmOne K (.ref A) (.ref C) = some b := by
  have i' : (PySem.W.clsIn K C).isSome = true := i
  show (if (PySem.W.subIn K (.ref C) (.type "BaseException") == some true) = true then (if ((PySem.W.clsIn K C).isSome && PySem.W.typeIn K (.ref C) == some (.type "type")) = true then PySem.W.subIn K (.ref A) (.ref C) else none) else none) = some b
  rw [h1, i', t, if_pos (by simp), if_pos (by simp)]
  exact q
/-- none of some classes -/
theorem kit_none {K : PySem.W.Frag} {t : Value} : ∀ {us : List Value}, (∀ u ∈ us, PySem.W.kitOne K t u = some false) → PySem.W.kitAny K t us = some false
  | [], _ => rfl
  | u :: us, h => kitAny_cons (h u List.mem_cons_self) (fun _ => kit_none fun x hx => h x (List.mem_cons_of_mem _ hx)) (fun z => by cases z)
theorem cls_all : ∀ {cs : List Addr}, Paired ClsV (cs.map V.ref) (cs.map Value.ref)
  | [] => .nil
  | c :: _ => .cons (.own c) cls_all
/-- a def with defaults dvs, and with its promise -/
def DfD (K : PySem.W.Frag) (mg : Str → Option Value) (x : Str) (st : Stmt) (ps : List Str) (dvs : List V) : Prop :=
  ∃ (f : Addr) (fd : FuncData), mg x = some (.ref f) ∧ FunD K x x (defArgs st) (defBody st) (defScope st) dvs [] f fd ∧ (∃ ds, Vals dvs ds ∧ Binds K fd ps ds) ∧ Binds K fd ps []
def OkD (P : Program) (w : World) (K : PySem.W.Frag) (mg : Str → Option Value) (base : Heap) (CX : CXT) (k : Nat) (x : Str) (ps : List Str) (dvs : List V) (sp : Sp) : Prop :=
  ∃ (f : Addr) (fd : FuncData), mg x = some (.ref f) ∧ PySem.W.keepIn K (.ref f) = true ∧ (∃ ds, Vals dvs ds ∧ Binds K fd ps ds) ∧ Binds K fd ps [] ∧ FnOk P w K mg base CX k f fd ps sp
theorem dfD_mk {K : PySem.W.Frag} {mg : Str → Option Value} {x : Str} {st : Stmt} {ps : List Str} {dvs : List V} {f T : Addr} {oc oC kV dc pm cd ct : Value} {od oD an : Option Addr} {sl sD : Array (Option Value)} {its : List Value} {n : Nat}
    (hm : mg x = some (.ref f)) (l : K.lookup f = some ⟨oc, od, .func (PySem.W.fnOf x x (defArgs st) (defBody st) (defScope st) (.ref T) kV dc pm an cd ct), sl⟩) (c : PySem.W.codeIn K cd x = true) (k : PySem.W.keepIn K (.ref f) = true)
    (d : K.lookup T = some ⟨oC, oD, .seq its.toArray n, sD⟩) (r : Vals dvs its) (hd : dvs ≠ []) {m : Nat} (hn : m + dvs.length = ps.length) (hz : dvs.drop dvs.length = [])
    (h1 : ∀ (T : Addr) (kV doc pm : Value) (an : Option Addr) (cdv ct : Value) (us its : List Value), us.length = m → its.length = dvs.length →
      ∃ k, bindArgs (PySem.W.fnOf x x (defArgs st) (defBody st) (defScope st) (.ref T) kV doc pm an cdv ct) ⟨us, []⟩ = seqItems? (.ref T) >>= k ∧ k (some its.toArray) = pure (ps.zip (us ++ its.drop 0)))
    (h2 : ∀ (T : Addr) (kV doc pm : Value) (an : Option Addr) (cdv ct : Value) (us its : List Value), us.length = ps.length → its.length = dvs.length →
      ∃ k, bindArgs (PySem.W.fnOf x x (defArgs st) (defBody st) (defScope st) (.ref T) kV doc pm an cdv ct) ⟨us, []⟩ = seqItems? (.ref T) >>= k ∧ k (some its.toArray) = pure (ps.zip (us ++ its.drop dvs.length))) : DfD K mg x st ps dvs := by
  have F : FunD K x x (defArgs st) (defBody st) (defScope st) dvs [] f (PySem.W.fnOf x x (defArgs st) (defBody st) (defScope st) (.ref T) kV dc pm an cd ct) :=
    ⟨⟨oc, od, .ref T, kV, dc, pm, an, cd, ct, sl, rfl, l, c, .inr ⟨hd, T, _, its, n, rfl, d, rfl, r⟩, .inl rfl⟩, k⟩
  refine ⟨f, _, hm, F, F.binds1 m 0 hd (by omega) h1, ?_⟩
  obtain ⟨ds, v, b⟩ := F.binds1 ps.length dvs.length hd (by omega) h2
  rw [hz] at v
  cases v
  exact b
section
variable {P : Program} {w : World} {K : PySem.W.Frag} {mg : Str → Option Value} {base : Heap}
theorem DfD.ok {CX : CXT} {x : Str} {st : Stmt} {N ps : List Str} {dvs : List V} {k : Nat} {sp : Sp} (D : DfD K mg x st ps dvs) (S : FnScope N ps (defScope st)) (len : ∀ vs H Q E, sp vs H Q E → vs.length = ps.length)
    (hbody : ∀ (f : Addr) (cdv : Value) (A : Around) (outer : List Env) (s : Shared) (H : Hp) (vs : List V) (Q : VK) (E : XK), Room k (A.deeper (envOfC x (defScope st) s.heap.objs.size f cdv)) → sp vs H Q E →
      ∃ t, PSs (cxOf CX P w K mg base N x (defScope st) f cdv A outer s H E) (defBody st) t ∧ t { nx := fun _ H' => Q .non H', rt := Q } (start N vs) H) : OkD P w K mg base CX (k + 1) x ps dvs sp := by
  obtain ⟨f, fd, hm, F, hb, hb0⟩ := D
  exact ⟨f, fd, hm, F.kp, hb, hb0, F.ok S len (hbody f)⟩
/-- a def that may raise -/
theorem Df.okX {x : Str} {st : Stmt} {N ps : List Str} {k : Nat} {sp : Sp} (D : Df K mg x st ps) (S : FnScope N ps (defScope st)) (len : ∀ vs H Q E, sp vs H Q E → vs.length = ps.length)
    (hbody : ∀ (f : Addr) (cdv : Value) (A : Around) (outer : List Env) (s : Shared) (H : Hp) (vs : List V) (Q : VK) (E : XK), Room k (A.deeper (envOfC x (defScope st) s.heap.objs.size f cdv)) → sp vs H Q E →
      ∃ t, PSs (cxOf (L2.CX P w) P w K mg base N x (defScope st) f cdv A outer s H E) (defBody st) t ∧ t { nx := fun _ H' => Q .non H', rt := Q } (start N vs) H) : OkF P w K mg base (L2.CX P w) (k + 1) x ps sp := by
  obtain ⟨f, fd, hm, F, hb⟩ := D
  exact ⟨f, fd, hm, F.kp, hb, F.okX S len (hbody f)⟩
end
section
variable {X : Cx} {k k' : Nat} {x : Str} {ps : List Str} {sp : Sp} {e : Expr} {es : List Expr} {t : TA} {p pos : Pos} {W : WX} {dvs : List V}
/-- f(e, ..) where f may raise -/
theorem pe_cx (O : OkF X.prog X.w X.K X.mg X.base (L2.CX X.prog X.w) k x ps sp) (hr : Room k' X.A) (tk : Takes X W) (ha : PA X (e :: es) t) (hk : k ≤ k' := by decide) (hg : Gl X x := by rfl)
    (hdb : (x == ("__debug__" : Str)) = false := by decide) (he : starEach (e :: es) X.env = (false, eval e X.env) :: starEach es X.env := by rfl) (hpl : (backTo pos (starEach es X.env)).any (·.1) = false := by rfl) :
    PE X (.Call (.Name x p) (e :: es) [] pos) (tCallS sp (WE W) t) := by
  obtain ⟨f, fd, hm, hkp, hb, F⟩ := O
  exact pe_callS F (hr.mono hk) hg hm hkp hb (fun σ => passAt tk σ) ha hdb he hpl
/-- the same, f with defaults, all arguments written -/
theorem pe_cxn (O : OkD X.prog X.w X.K X.mg X.base (L2.CX X.prog X.w) k x ps dvs sp) (hr : Room k' X.A) (tk : Takes X W) (ha : PA X (e :: es) t) (hk : k ≤ k' := by decide) (hg : Gl X x := by rfl)
    (hdb : (x == ("__debug__" : Str)) = false := by decide) (he : starEach (e :: es) X.env = (false, eval e X.env) :: starEach es X.env := by rfl) (hpl : (backTo pos (starEach es X.env)).any (·.1) = false := by rfl) :
    PE X (.Call (.Name x p) (e :: es) [] pos) (tCallS sp (WE W) t) := by
  obtain ⟨f, fd, hm, hkp, _, hb, F⟩ := O
  exact pe_callS F (hr.mono hk) hg hm hkp hb (fun σ => passAt tk σ) ha hdb he hpl
/-- the same, the defaults fill up -/
def tCallD (sp : Sp) (dvs : List V) (E : L2.St → XK) (t : TA) : TE := fun σ H Q => t σ H fun vs H1 => sp (vs ++ dvs) H1 Q (E σ)
theorem pe_cxd (O : OkD X.prog X.w X.K X.mg X.base (L2.CX X.prog X.w) k x ps dvs sp) (hr : Room k' X.A) (tk : Takes X W) (ha : PA X (e :: es) t) (hk : k ≤ k' := by decide) (hg : Gl X x := by rfl)
    (hdb : (x == ("__debug__" : Str)) = false := by decide) (he : starEach (e :: es) X.env = (false, eval e X.env) :: starEach es X.env := by rfl) (hpl : (backTo pos (starEach es X.env)).any (·.1) = false := by rfl) :
    PE X (.Call (.Name x p) (e :: es) [] pos) (tCallD sp dvs (WE W) t) := by
  obtain ⟨f, fd, hm, hkp, ⟨ds, hv, hb⟩, _, F⟩ := O
  refine ⟨fun pins s σ H Q I h => ?_⟩
  refine wpAny_Call_Name_kw (ld_glob I hg hm ?_ hdb)
  refine PySem.W.callWith_K (h₀ := X.base) I.ok.mod.kin hkp (thn (ha.run pos pins s σ H _ I h) fun us s1 ⟨vs, H1, I1, r, q⟩ => ⟨I1.kIn, ?_⟩) he hpl
  have hl : (vs ++ dvs).length = ps.length := F.len _ _ _ _ q
  have b := hb s1 us I1.kIn (by rw [← hl, List.length_append, List.length_append, r.length, hv.length])
  refine wpAny_call (codeAny_mono (F.run X.A X.stack s1 H1 ⟨us, []⟩ (us ++ ds) (vs ++ dvs) Q (WE W σ) (hr.mono hk) I1.env0 b (r.append hv) q) fun rr s2 hq => ?_)
  cases rr with
  | error e => exact passAt tk σ pins H1 s1 e s2 I1 hq
  | ok fl =>
    cases fl with
    | ret u => exact I1.after hq
    | next => exact False.elim hq
    | brk => exact False.elim hq
    | cont => exact False.elim hq
end
end Dear

namespace Dear
open PySem PySem.Spec PyProof.Rows L2
/-! ### own exceptions with an own __init__: X(DearError), DearError.__init__(self, f'..{f}'), self.f = f -/
/-- what may stand in such a field -/
def FmtV (v : V) : Prop := v = .non ∨ (∃ y : Str, v = .str y ∧ y.length ≤ 900) ∨ ∃ i : Int, v = .int i ∧ i.natAbs < 2 ^ 64
theorem int_len {i : Int} (h : i.natAbs < 2 ^ 64) : (Str.ofString (toString i)).length ≤ 900 ∧ i.natAbs.log2 < 1920 := by
  constructor
  · have e := int_text_length_le10 (k := 30) (a := i) (by decide) (Nat.lt_of_lt_of_le h (by decide))
    rw [PySem.ofString_length]
    omega
  · have e : i.natAbs.log2 < 64 := PySem.Flt.log2_lt_of (by decide) h
    omega
section
variable {X : Cx}
/-- {x} of None, a text, a number: some short text -/
def tFmtN (te : TE) : TE := fun σ H Q => te σ H fun x H1 => FmtV x ∧ ∀ z : Str, z.length ≤ 900 → Q (.str z) H1
theorem pe_fmtN {e : Expr} {te : TE} {pos : Pos} (he : PE X e te) : PE X (.FormattedValue e (-1) none pos) (tFmtN te) := by
  refine ⟨fun pins s σ H Q I h => wpAny_FormattedValue_plain (thn (he.run pins s σ H _ I h) fun v s1 hv => ?_)⟩
  obtain ⟨x, H1, J, r, hx, q⟩ := hv
  rcases hx with e | ⟨y, e, hy⟩ | ⟨i, e, hi⟩
  · subst e
    cases (show v = Value.none from r)
    exact wpAny_formatField_none ⟨.str "None", H1, (J.tok _), ⟨_, rfl⟩, q _ (by decide +kernel)⟩
  · subst e
    obtain ⟨t, e⟩ := r
    subst e
    have q' := q y hy
    exact wpAny_formatField_str ⟨.str y, H1, J, ⟨t, rfl⟩, q'⟩ ⟨.str y, H1, J.tok _, ⟨_, rfl⟩, q'⟩ (Nat.le_trans hy (by decide))
  · subst e
    obtain ⟨t, e⟩ := r
    subst e
    exact wpAny_formatField_int (int_len hi).2 ⟨.str (Str.ofString (toString i)), H1, J.tok _, ⟨_, rfl⟩, q _ (int_len hi).1⟩
end
/-- C.__init__ of an own exception class without an own one is ValueError's -/
structure DrI (K : PySem.W.Frag) (mg : Str → Option Value) (x : Str) (C : Addr) : Prop where
  g : mg x = some (.ref C)
  s : PySem.W.specialIn K (.ref C) "__getattribute__" = some (some (.builtin "type.__getattribute__"))
  r : PySem.W.readsIn K C (.type "type") = true
  v : PySem.W.findCls K (.ref C) (.type "type") "__init__" = some (.val (.builtin "ValueError.__init__"))
section
variable {X : Cx}
theorem pe_drinit {e : Expr} {es : List Expr} {ta : TA} {x : Str} {C0 : Addr} {pl : Sem Bool} {p1 p2 pos : Pos} (T : DrI X.K X.mg x C0) (ha : PA X (e :: es) ta) (hg : Gl X x := by rfl) (hdb : (x == ("__debug__" : Str)) = false := by decide)
    (hc : eval (.Call (.Attribute (.Name x p1) "__init__" p2) (e :: es) [] pos) X.env = (do
      let o9 ← eval (.Name x p1) X.env
      standAt p2.atName
      let (f9, r9) ← holding [o9] (getMethod o9 "__init__" pl)
      callWith pos f9 r9 (backTo pos (starEach (e :: es) X.env)) (backToKw pos (keywordEach [] X.env))) := by rfl)
    (he : starEach (e :: es) X.env = (false, eval e X.env) :: starEach es X.env := by rfl) (hpl : (backTo pos (starEach es X.env)).any (·.1) = false := by rfl) :
    PE X (.Call (.Attribute (.Name x p1) "__init__" p2) (e :: es) [] pos) (tVeI X.K ta) := by
  refine ⟨fun pins s σ H Q I h => PySem.W.methodCall_KW (ld_glob I hg T.g ?_ hdb) hc⟩
  refine PySem.W.method_cls I.kIn T.s (PySem.W.cls_value I.kIn T.r T.v (by decide +kernel) ?_)
  show wpAny (model X.prog X.w) X.A (callWith pos (Value.builtin "ValueError.__init__") [] (backTo pos (starEach (e :: es) X.env)) []) _ _ _
  refine PyProof.Rows.callWith_method1 (thn (ha.run pos pins _ σ H _ (I.tok _) h) fun us s1 hh => ?_) he hpl
  obtain ⟨vs, H1, J, r, a, C, ws, ev, hl, O, ea, q⟩ := hh
  subst ev
  cases r with
  | @cons _ u0 _ ur ra rr =>
    cases (show u0 = Value.ref a from ra)
    exact oinit_ok O J ea (by rw [← Paired.length rr]; exact Nat.le_trans hl (by decide)) fun s' J' => ⟨.non, H1, J', rfl, q⟩
end
/-- the promise of such an __init__ -/
def spExI (f : Str) (K : PySem.W.Frag) : Sp := fun vs H Q _ => ∃ (a C : Addr) (v : V), vs = [.ref a, v] ∧ OexC K C ∧ PySem.W.findIn K (.ref C) f = some none ∧ H a = some (exo a C none) ∧ FmtV v ∧
  ∀ dx, H dx = none → dx ≠ a → Q .non (upd (upd H dx (exd dx [(f, v)])) a (exo a C (some dx)))
/-- what the written part says of the class at C -/
structure ExInit (K : PySem.W.Frag) (mg : Str → Option Value) (x f : Str) (C : Addr) : Prop where
  g : mg x = some (.ref C)
  o : OexC K C
  n : PySem.W.findIn K (.ref C) f = some none
  c : ExcC K C
def OkI (P : Program) (w : World) (K : PySem.W.Frag) (mg : Str → Option Value) (base : Heap) (x f : Str) (C : Addr) : Prop :=
  ∃ (fI : Addr) (fd : FuncData), PySem.W.findIn K (.ref C) "__init__" = some (some (.ref fI)) ∧ PySem.W.typeIn K (.ref fI) = some (.type "function") ∧ FnOk P w K mg base CX0 1 fI fd ["self", f] (spExI f K) ∧ Binds K fd ["self", f] [] ∧ ExInit K mg x f C
/-- the def __init__ of the class at C -/
def DfI (K : PySem.W.Frag) (C : Addr) (q : Str) (st : Stmt) (f : Str) : Prop := ∃ (fI : Addr) (fd : FuncData), PySem.W.findIn K (.ref C) "__init__" = some (some (.ref fI)) ∧ PySem.W.typeIn K (.ref fI) = some (.type "function") ∧ Fun K "__init__" q st fI fd ∧ Binds K fd ["self", f] []
section
variable {X : Cx}
theorem pmk_i {k' : Nat} {x f : Str} {C : Addr} {e : Expr} {ta : TA} {p pos : Pos} (O : OkI X.prog X.w X.K X.mg X.base x f C) (hr : Room k' X.A) (ha : PA X [e] ta) (hk : 2 ≤ k' := by decide) (hg : Gl X x := by rfl) (hdb : (x == ("__debug__" : Str)) = false := by decide)
    (he : starEach [e] X.env = (false, eval e X.env) :: starEach [] X.env := by rfl) (hpl : (backTo pos (starEach [] X.env)).any (·.1) = false := by rfl) : PMk X (.Call (.Name x p) [e] [] pos) (tMkO C (spExI f X.K) [] ta) := by
  obtain ⟨fI, fd, h1, h2, F, b, T⟩ := O
  exact pmk_oex T.o h1 h2 F (hr.mono hk) b .nil pass0 hg T.g ha hdb he hpl
end
/-- making it, at its reading -/
theorem mkx {K : PySem.W.Frag} {mg : Str → Option Value} {x f : Str} {C : Addr} {H : Hp} {v : V} {Q : XK} (T : ExInit K mg x f C) (fv : FmtV v) (q : ∀ d, H d = none → Q (.ref C) (some d) (upd H d (.xd [(f, v)]))) :
    [v].length ≤ 1000 ∧ ∀ a, H a = none → spExI f K (.ref a :: ([v] ++ [])) (upd H a (exo a C none)) (fun u H2 => u = .non ∧ ∃ (d : Addr) (fs : List (Str × V)), H2 a = some (exo a C (some d)) ∧ H2 d = some (exd d fs) ∧ H d = none ∧ Q (.ref C) (some d) (upd (del H2 a) d (.xd fs))) (fun _ _ _ => False) := by
  refine ⟨(by decide : 1 ≤ 1000), fun a ha => ⟨a, C, v, rfl, T.o, T.n, upd_same, fv, fun dx hd ne => ⟨rfl, dx, [(f, v)], upd_same, ?_, ?_, ?_⟩⟩⟩
  · rw [upd_ne ne, upd_same]
  · rw [upd_ne ne] at hd
    exact hd
  · rw [upd_ne ne] at hd
    have e : upd (del (upd (upd (upd H a (exo a C none)) dx (exd dx [(f, v)])) a (exo a C (some dx))) a) dx (.xd [(f, v)]) = upd H dx (.xd [(f, v)]) := by
      funext b
      by_cases h1 : b = dx
      · subst h1
        rw [upd_same, upd_same]
      · rw [upd_ne h1, upd_ne h1]
        by_cases h2 : b = a
        · subst h2
          rw [del_same, ha]
        · rw [del_ne h2, upd_ne h2, upd_ne h1, upd_ne h2]
    rw [e]
    exact q dx hd
/-! ### a kept exception with a dict: isinstance, its field -/
/-- the exception of the class D at a, with its dict or without -/
def ExAt (H : Hp) (D a : Addr) : Prop := H a = some (ExK (.ref D) none a) ∨ ∃ (dd : Addr) (fs : List (Str × V)), H a = some (ExK (.ref D) (some dd) a) ∧ H dd = some (.xd fs)
section
variable {prog : Program} {w : World} {A : Around} {E : Value → Shared → Prop} {s : Shared} {K : PySem.W.Frag} {x D : Addr} {ox : Obj} {od : Option Obj}
open PySem.W in
theorem class_of_exc {Q : Option Value → Shared → Prop} (C : ExcC K D) (X : K.In s.heap) (I : InstAt s.heap x ox D od) (h : Q (some (.ref D)) { s with toks := s.toks + 1 }) : wpAny (model prog w) A (getAttr? (.ref x) "__class__") Q E s := by
  obtain ⟨cd, hc, _⟩ := any_some C.hd
  have found : findObj K D od "__class__" = some (.bind (.builtin "getset_descriptor.__get__") (.builtin "object.__class__")) := by
    unfold findObj
    rw [hc, Option.bind_some, C.ha, Option.bind_some]
    simp [C.hn, C.ht]
  obtain ⟨hp, g, d, t, os⟩ := s
  have M0 := I.type (M := model prog w)
  have no : (Value.builtin "BaseException.__getattribute__" == Value.builtin "object.__getattribute__") = false := by decide +kernel
  have isE : Looks (model prog w) hp (isInstance (.ref x) (.type "BaseException")) true := M0.andThen (looks_subIn X C.hs)
  unfold getAttr? getAttrBy? getAttrBy
  refine wpAny_bind (wpAny_mkText (wpAny_bind (wpAny_attempt (wpAny_holding (wpAny_bind (M0.at (wpAny_bind ((looks_findIn (M := model prog w) X C.hg).at ?_))))))))
  show wpAny (model prog w) _ (if (true && Value.builtin "BaseException.__getattribute__" == Value.builtin "object.__getattribute__") = true then _ else _) _ _ _
  rw [no, if_neg (by decide)]
  unfold getAttrByItsOwn hookBefore
  refine wpAny_bind ?_
  rw [if_pos (show onTheHeap (.ref D) = true from rfl)]
  refine (looks_findIn (M := model prog w) X C.hk).at (wpAny_bind (wpAny_attempt (wpAny_holding ?_)))
  unfold callGetattribute
  rw [if_neg (by decide)]
  unfold boundAndCalled
  rw [F.excAttr_ValueError.ga.bind (.ref x)]
  refine wpAny_bind (wpAny_pure ?_)
  show wpAny (model prog w) _ (call (.builtin "BaseException.__getattribute__") [.ref x, .str "__class__" t]) _ _ _
  refine wpAny_call (codeAny_call_builtin F.excAttr_ValueError.ga.plain F.entry_bexc_ga (@check_slot (model prog w) _ _ ⟨hp, g, d, t + 1, os⟩ "BaseException.__getattribute__" "BaseException" "__getattribute__" (.ref x) [.str "__class__" t] [] _ (by decide +kernel) (by decide +kernel) isE (F.args_bexc_ga (.ref x) (.str "__class__" t)) ?_))
  unfold Builtin.«object.__getattribute__»
  refine wpAny_bind (wpAny_of_eq (a := ((Value.ref x : Value), [Value.str "__class__" t])) (by first | (simp only [slotArgs]; rfl) | rfl) (wpAny_bind (wpAny_pure (wpAny_bind (M0.at (wpAny_bind ((looks_find (M := model prog w) X I found).at ?_)))))))
  show wpAny (model prog w) _ (holding [Value.builtin "object.__class__"] (call (.builtin "getset_descriptor.__get__") [.builtin "object.__class__", .ref x, .ref D]) >>= ret) _ _ _
  refine wpAny_bind (wpAny_holding (wpAny_call (class_get (s := ⟨hp, g, d, t + 1, os⟩) (ox := ox) (od := od) X I C.hm (wpAny_pure ?_))))
  show wpAny (model prog w) _ (handedOut (.ref D)) _ _ _
  rw [handedOut_of (v := .ref D) rfl]
  first
    | exact wpAny_pure (wpAny_pure h)
    | exact wpAny_pure h
    | exact wpAny_pure (wpAny_bind (wpAny_pure (wpAny_pure h)))
open PySem.W in
theorem kitx_own (C : ExcC K D) : KitX K (.ref x) (.ref D) (fun h => InstAt h x ox D od) := by
  have Z := handS_kitx_exc (x := x) (ox := ox) C.hg C.hk C.hs C.hd C.ha C.hn C.ht C.hm
  refine ⟨fun _ _ _ I => I.type, fun M h X _ => ?_, Z.ne, fun X I k => class_of_exc C X I k⟩
  obtain ⟨cd, hc, _⟩ := any_some C.hd
  unfold clsIn at hc
  split at hc
  · rename_i ho
    intro A' Q' E' s' k q
    unfold isType loadHead
    exact wpAny_bind (wpAny_loadPart (k _ _ (X _ _ ho)) (wpAny_pure q))
  · cases hc
end
def rIsY (K : PySem.W.Frag) : List V → Hp → VK → Prop := fun xs H Q => ∃ (a D : Addr) (c : V) (u : Value) (b : Bool), xs = [.ref a, c] ∧ ExAt H D a ∧ ExcC K D ∧ ClsV c u ∧ PySem.W.kitOne K (.ref D) u = some b ∧ Q (.bl b) H
def rIsYT (K : PySem.W.Frag) : List V → Hp → VK → Prop := fun xs H Q => ∃ (a D tp : Addr) (cs : List V) (us : List Value) (b : Bool), xs = [.ref a, .ref tp] ∧ ExAt H D a ∧ ExcC K D ∧ H tp = some (.tup cs) ∧ Paired ClsV cs us ∧ PySem.W.kitAny K (.ref D) us = some b ∧ Q (.bl b) H
section
variable {X : Cx} {pins : List (Addr × Obj)} {σ : L2.St} {H : Hp} {s : Shared}
theorem inst_of (I : Inv X pins σ H s) {D a : Addr} (h : ExAt H D a) : ∃ oe od, PySem.W.InstAt s.heap a oe D od := by
  rcases h with h | ⟨dd, fs, h, hd⟩
  · obtain ⟨⟨oe, vs, he, hz, hv⟩, _⟩ := I.hok a _ h
    exact ⟨oe, none, instAt_kept he hz hv⟩
  · obtain ⟨⟨oe, vs, he, hz, hv⟩, _⟩ := I.hok a _ h
    have hx : ObjOk X.prog X.w H s.heap dd (.xd fs) := I.hok dd _ hd
    obtain ⟨mA, hns, _⟩ := hx
    obtain ⟨od, ho, _⟩ := lookIn_ns hns
    exact ⟨oe, some od, he, hz.1, by unfold PySem.W.notCls; rw [hv] <;> rfl, by rw [hz.2]; exact ho⟩
end
section
variable {X : Cx} (K : PySem.W.Frag)
theorem call_isY_k (hk : X.K = K := by rfl) : CallR X (.builtin "isinstance") (rIsY K) := by
  subst hk
  intro pins s σ H xs us Q I r h
  obtain ⟨a, D, c, u, b, rfl, ha, C, k, e, q⟩ := h
  obtain ⟨u1, u2, rfl, r1, r2⟩ := vals2 r
  have e2 := k.eq r2
  subst e2
  cases r1
  obtain ⟨oe, od, J⟩ := inst_of I ha
  exact PySem.W.kia_one (kitx_own C) I.kIn J e (fun z => nomatch z) fun tk => ⟨.bl b, H, I.tok tk, rfl, q⟩
theorem call_isYT_k (hk : X.K = K := by rfl) : CallR X (.builtin "isinstance") (rIsYT K) := by
  subst hk
  intro pins s σ H xs us Q I r h
  obtain ⟨a, D, tp, cs, ws, b, rfl, ha, C, hT, k, e, q⟩ := h
  obtain ⟨u1, u2, rfl, r1, r2⟩ := vals2 r
  cases r1
  cases (show u2 = Value.ref tp from r2)
  obtain ⟨oe, od9, J⟩ := inst_of I ha
  obtain ⟨_, its, rv, o, h1, h2, n, h3⟩ := (show ObjOk X.prog X.w H s.heap tp (.tup cs) from I.hok tp _ hT)
  have e3 := ClsV.all k rv
  subst e3
  obtain ⟨oc, od, dt, sl⟩ := o
  simp only at h2 h3
  subst h2 h3
  exact PySem.W.kia_tup (kitx_own C) I.kIn J h1 e (fun z => nomatch z) fun tk => ⟨.bl b, H, I.tok tk, rfl, q⟩
/-- e.f, e a kept exception -/
def tXfK (K : PySem.W.Frag) (f : Str) (te : TE) : TE := fun σ H Q => te σ H fun x H1 => ∃ (a C dd : Addr) (fs : List (Str × V)) (v : V), x = .ref a ∧ H1 a = some (ExK (.ref C) (some dd) a) ∧ H1 dd = some (.xd fs) ∧ ExcC K C ∧ PySem.W.findIn K (.ref C) f = some none ∧ fs.lookup f = some v ∧ Q v H1
theorem pe_xfK {e : Expr} {te : TE} {pos : Pos} {f : Str} (he : PE X e te) (hk : X.K = K := by rfl) (hb : attributeBase e f X.env (eval e X.env) = eval e X.env := by rfl) : PE X (.Attribute e f pos) (tXfK K f te) := by
  subst hk
  refine ⟨fun pins s σ H Q I h => attr_of hb (thn (he.run pins s σ H _ I h) fun u s1 hh => ?_)⟩
  obtain ⟨x, H1, J, rx, a, C, dd, fs, v, ex, ea, ed, T, hno, l, q⟩ := hh
  subst ex
  cases (show u = Value.ref a from rx)
  obtain ⟨⟨oe, vs, hoe, hz, hv⟩, _⟩ := J.hok a _ ea
  have hx : ObjOk X.prog X.w H1 s1.heap dd (.xd fs) := J.hok dd _ ed
  obtain ⟨mA, hns, hr⟩ := hx
  obtain ⟨od, ho, hl⟩ := lookIn_ns hns
  obtain ⟨u, hu, ru⟩ := RelO.some_of (v := v) (o := mA f) (by rw [← l]; exact hr f)
  have Z : PySem.W.InstAt s1.heap a oe C (some od) := ⟨hoe, hz.1, by unfold PySem.W.notCls; rw [hv] <;> rfl, by rw [hz.2]; exact ho⟩
  exact HandSPX.exc_get J.kIn Z T.hg T.hk T.hs (PySem.W.findObj_own T.hd hno rfl (by rw [hl, hu])) (handed_of ru) ⟨v, H1, J.tok _, ru, q⟩
end
end Dear

namespace Dear
open PySem PySem.Spec PyProof.Rows L2
/-! ### data, and how the heap bears them -/
inductive D where
  | non | bl (b : Bool) | int (i : Int) | str (z : Str) | lst (ds : List D) | tup (ds : List D) | dct
def kind : D → String
  | .non => "NoneType" | .bl _ => "bool" | .int _ => "int" | .str _ => "str" | .lst _ => "list" | .tup _ => "tuple" | .dct => "dict"
mutual
inductive Dt (H : Hp) : V → D → Prop
  | non : Dt H .non .non
  | bl (b : Bool) : Dt H (.bl b) (.bl b)
  | int (i : Int) : Dt H (.int i) (.int i)
  | str (z : Str) : Dt H (.str z) (.str z)
  | lst {a : Addr} {xs : List V} {ds : List D} : H a = some (.lst xs) → DtAll H xs ds → Dt H (.ref a) (.lst ds)
  | tup {a : Addr} {xs : List V} {ds : List D} : H a = some (.tup xs) → DtAll H xs ds → Dt H (.ref a) (.tup ds)
  | dct {a : Addr} {kvs : List (Key × V)} : H a = some (.dK kvs) → Dt H (.ref a) .dct
inductive DtAll (H : Hp) : List V → List D → Prop
  | nil : DtAll H [] []
  | cons {v : V} {vs : List V} {d : D} {ds : List D} : Dt H v d → DtAll H vs ds → DtAll H (v :: vs) (d :: ds)
end
mutual
theorem Dt.same {H H' : Hp} (s : Same H H') : ∀ {v : V} {d : D}, Dt H v d → Dt H' v d
  | _, _, .non => .non
  | _, _, .bl b => .bl b
  | _, _, .int i => .int i
  | _, _, .str z => .str z
  | _, _, .lst h a => .lst (s _ _ h) (DtAll.same s a)
  | _, _, .tup h a => .tup (s _ _ h) (DtAll.same s a)
  | _, _, .dct h => .dct (s _ _ h)
theorem DtAll.same {H H' : Hp} (s : Same H H') : ∀ {vs : List V} {ds : List D}, DtAll H vs ds → DtAll H' vs ds
  | _, _, .nil => .nil
  | _, _, .cons a b => .cons (Dt.same s a) (DtAll.same s b)
end
theorem DtAll.length {H : Hp} : ∀ {vs : List V} {ds : List D}, DtAll H vs ds → vs.length = ds.length
  | _, _, .nil => rfl
  | _, _, .cons _ b => by rw [List.length_cons, List.length_cons, DtAll.length b]
theorem DtAll.get {H : Hp} : ∀ {vs : List V} {ds : List D} {i : Nat} {v : V}, DtAll H vs ds → vs[i]? = some v → ∃ d, ds[i]? = some d ∧ Dt H v d
  | _, _, _, _, .nil, e => by simp at e
  | _, _, 0, _, .cons a _, e => by
    simp at e
    subst e
    exact ⟨_, rfl, a⟩
  | _, _, i + 1, v, .cons _ b, e => by
    obtain ⟨d, h1, h2⟩ := DtAll.get (i := i) (v := v) b (by simpa using e)
    exact ⟨d, by simpa using h1, h2⟩
theorem DtAll.app {H : Hp} : ∀ {vs us : List V} {ds es : List D}, DtAll H vs ds → DtAll H us es → DtAll H (vs ++ us) (ds ++ es)
  | _, _, _, _, .nil, s => s
  | _, _, _, _, .cons a b, s => .cons a (DtAll.app b s)
theorem DtAll.map {α : Type} {H : Hp} {f : α → V} {g : α → D} (h : ∀ a, Dt H (f a) (g a)) : ∀ l : List α, DtAll H (l.map f) (l.map g)
  | [] => .nil
  | a :: l => .cons (h a) (DtAll.map h l)
theorem Dt.ty {K : PySem.W.Frag} {H : Hp} {v : V} {d : D} (h : Dt H v d) : TyX K H v (.type (kind d)) := by
  cases h with
  | non => exact .base .non
  | bl b => exact .base (.bl b)
  | int i => exact .base (.int i)
  | str z => exact .base (.str z)
  | lst h _ => exact .base (.lst h)
  | tup h _ => exact .base (.tup h)
  | dct h => exact .base (.dK h)
/-! ### a heap without one object -/
def Off (l : Addr) (H : Hp) : Hp := fun b => if b = l then none else H b
theorem Off.sub (l : Addr) (H : Hp) : Same (Off l H) H := fun b o e => by
  unfold Off at e
  by_cases h : b = l
  · rw [if_pos h] at e
    cases e
  · rw [if_neg h] at e
    exact e
theorem off_ne {l b : Addr} {H : Hp} (h : b ≠ l) : Off l H b = H b := if_neg h
theorem But.off {l : Addr} {H H' : Hp} (a : But l H H') : Same (Off l H) (Off l H') := fun b o e => by
  by_cases h : b = l
  · have z := (if_pos h).symm.trans e
    cases z
  · rw [off_ne h] at e ⊢
    exact a b o e h
theorem sOff {l : Addr} {H H' : Hp} (a : Same H H') : Same (Off l H) (Off l H') := (But.of a).off
theorem Dt.on {l : Addr} {H : Hp} {v : V} {d : D} (h : Dt (Off l H) v d) : Dt H v d := h.same (Off.sub l H)
/-! ### what a display makes -/
def Mk (l : Addr) (σ : L2.St) (t : TE) (H : Hp) (d : D) : Prop := ∀ H1, Same H H1 → ∀ Q : VK, (∀ v H2, Same H1 H2 → Dt (Off l H2) v d → Q v H2) → t σ H1 Q
def MkA (l : Addr) (σ : L2.St) (t : TA) (H : Hp) (ds : List D) : Prop := ∀ H1, Same H H1 → ∀ Q : List V → Hp → Prop, (∀ vs H2, Same H1 H2 → DtAll (Off l H2) vs ds → Q vs H2) → t σ H1 Q
section
variable {l : Addr} {σ : L2.St} {H : Hp}
theorem mk_c {v : V} {d : D} (h : Dt (Off l H) v d) : Mk l σ (tC v) H d := fun H1 s _ q => q v H1 (Same.refl _) (h.same (sOff s))
theorem mk_var {i : Nat} {v : V} {d : D} (e : σ[i]? = some (some v)) (h : Dt (Off l H) v d) : Mk l σ (tVar i) H d := fun H1 s _ q => ⟨v, e, q v H1 (Same.refl _) (h.same (sOff s))⟩
theorem mka_nil : MkA l σ tNil H [] := fun H1 _ _ q => q [] H1 (Same.refl _) .nil
theorem mka_cons {t : TE} {u : TA} {d : D} {ds : List D} (h1 : Mk l σ t H d) (h2 : MkA l σ u H ds) : MkA l σ (tCons t u) H (d :: ds) := fun H1 s Q q => by
  refine h1 H1 s _ fun v H2 s2 d2 => ?_
  refine h2 H2 (s.trans s2) _ fun vs H3 s3 d3 => ?_
  exact q (v :: vs) H3 (s2.trans s3) (.cons (d2.same (sOff s3)) d3)
theorem sz_lit {n : Nat} (h : n ≤ 1000) : n ≤ sizeLine := Nat.le_of_lt (small1000 h)
theorem mk_tup {u : TA} {ds : List D} (h : MkA l σ u H ds) {o : HO} (hl : H l = some o) (hz : Nat.ble ds.length 1000 = true := by rfl) : Mk l σ (tTup u) H (.tup ds) := fun H1 s Q q => by
  refine h H1 s _ fun vs H2 s2 d2 => ?_
  refine ⟨sz_lit (by rw [d2.length]; exact Nat.le_of_ble_eq_true hz), fun p hp => ?_⟩
  have ne : p ≠ l := fun e => by
    subst e
    rw [s2 _ _ (s _ _ hl)] at hp
    cases hp
  exact q (.ref p) _ (s2.trans (Same.upd hp)) (.tup (by rw [off_ne ne]; exact upd_same) (d2.same (sOff (Same.upd hp))))
theorem mk_lst {u : TA} {ds : List D} (h : MkA l σ u H ds) {o : HO} (hl : H l = some o) (hz : Nat.ble ds.length 1000 = true := by rfl) : Mk l σ (tLst u) H (.lst ds) := fun H1 s Q q => by
  refine h H1 s _ fun vs H2 s2 d2 => ?_
  refine ⟨sz_lit (by rw [d2.length]; exact Nat.le_of_ble_eq_true hz), fun p hp => ?_⟩
  have ne : p ≠ l := fun e => by
    subst e
    rw [s2 _ _ (s _ _ hl)] at hp
    cases hp
  exact q (.ref p) _ (s2.trans (Same.upd hp)) (.lst (by rw [off_ne ne]; exact upd_same) (d2.same (sOff (Same.upd hp))))
theorem mk_dnew {o : HO} (hl : H l = some o) : Mk l σ tDNewK H .dct := fun H1 s Q q p hp => by
  have ne : p ≠ l := fun e => by
    subst e
    rw [s _ _ hl] at hp
    cases hp
  exact q (.ref p) _ (Same.upd hp) (.dct (by rw [off_ne ne]; exact upd_same))
theorem mk_neg {i : Int} : Mk l σ (tUn (rU fun i => .int (-i)) (tC (.int i))) H (.int (-i)) := fun H1 _ _ q => ⟨i, rfl, q _ H1 (Same.refl _) (.int _)⟩
/-- {k: v} -/
theorem mk_disp1 {o : HO} {k : Int} {v : V} (hl : H l = some o) : Mk l σ (tDisp [(tC (.int k), tC v)]) H .dct := fun H1 s Q q p hp => by
  have ne : p ≠ l := fun e => by
    subst e
    rw [s _ _ hl] at hp
    cases hp
  refine ⟨upd_same, [(.inl k, v)], rfl, (by show 1 ≤ 15; decide), ?_⟩
  rw [upd_upd]
  exact q (.ref p) _ (Same.upd hp) (.dct (by rw [off_ne ne]; exact upd_same))
theorem Mk.go {t : TE} {d : D} (h : Mk l σ t H d) {Q : VK} (q : ∀ v H2, Same H H2 → Dt (Off l H2) v d → Q v H2) : t σ H Q := h H (Same.refl H) Q q
/-- xs + [..] -/
theorem mk_cat {t u : TE} {ds es : List D} (h1 : Mk l σ t H (.lst ds)) (h2 : Mk l σ u H (.lst es)) {o : HO} (hl : H l = some o) (hz : Nat.ble (ds.length + es.length) 1000 = true := by rfl) : Mk l σ (tOp rCat t u) H (.lst (ds ++ es)) := fun H1 s Q q => by
  refine h1 H1 s _ fun v H2 s2 d2 => ?_
  refine h2 H2 (s.trans s2) _ fun v3 H3 s3 d3 => ?_
  cases d2 with
  | lst ha2 hall2 =>
    cases d3 with
    | lst ha3 hall3 =>
      have ha2' := s3 _ _ (Off.sub _ _ _ _ ha2)
      have ha3' := Off.sub _ _ _ _ ha3
      refine ⟨_, _, _, _, rfl, rfl, ha2', ha3', sz_lit (by rw [hall2.length, hall3.length]; exact Nat.le_of_ble_eq_true hz), fun p hp => ?_⟩
      have ne : p ≠ l := fun e => by
        subst e
        rw [s3 _ _ (s2 _ _ (s _ _ hl))] at hp
        cases hp
      exact q (.ref p) _ ((s2.trans s3).trans (Same.upd hp)) (.lst (by rw [off_ne ne]; exact upd_same) (((hall2.same (sOff s3)).app hall3).same (sOff (Same.upd hp))))
end
/-! ### sizes of data -/
abbrev Asc (z : Str) : Prop := ∀ c ∈ z.cps.toList, c < 128
mutual
def Ok : D → Prop
  | .int i => i.natAbs < 2 ^ 300
  | .str z => z.length ≤ 3000 ∧ Asc z
  | .lst ds => OkAll ds
  | .tup ds => OkAll ds
  | _ => True
def OkAll : List D → Prop
  | [] => True
  | d :: ds => Ok d ∧ OkAll ds
end
theorem OkAll.mem : ∀ {ds : List D} {d : D}, OkAll ds → d ∈ ds → Ok d
  | [], _, _, m => by simp at m
  | e :: r, d, h, m => by
    rcases List.mem_cons.mp m with rfl | m
    · exact h.1
    · exact OkAll.mem h.2 m
/-- places of a list -/
theorem at_lt {α : Type} {xs : List α} {r : Int} (h0 : 0 ≤ r) (h1 : r < xs.length) : ∃ v, atI xs r = some v ∧ v ∈ xs ∧ xs[r.toNat]? = some v := by
  obtain ⟨n, rfl⟩ := Int.eq_ofNat_of_zero_le h0
  have hn : n < xs.length := by omega
  exact ⟨xs[n], atI_nat (by simp [hn]), List.getElem_mem hn, by simp [hn]⟩
/-! ### the law's draws -/
def Src (H : Hp) (l : Addr) : Prop := ∃ n s : Int, H l = some (.lst [.int n, .int s]) ∧ 0 ≤ n ∧ 0 ≤ s ∧ s < 2147483647
theorem Src.same {H H' : Hp} {l : Addr} (h : Src H l) (s : Same H H') : Src H' l := by
  obtain ⟨n, z, e, r⟩ := h
  exact ⟨n, z, s _ _ e, r⟩
theorem Src.some {H : Hp} {l : Addr} (h : Src H l) : ∃ o, H l = Option.some o := by
  obtain ⟨n, z, e, r⟩ := h
  exact ⟨_, e⟩
theorem Src.ne {H : Hp} {l p : Addr} (h : Src H l) (hp : H p = none) : p ≠ l := fun e => by
  obtain ⟨o, ho⟩ := h.some
  rw [e, ho] at hp
  cases hp
theorem bit_lt (k : Bool) : -(2 ^ 64) < (if k = true then 1 else 0 : Int) ∧ (if k = true then 1 else 0 : Int) < 2 ^ 64 := by
  cases k <;> decide
theorem bit_ge (k : Bool) : 0 ≤ (if k = true then 1 else 0 : Int) := by
  cases k <;> decide
def spSource : Sp := fun vs H Q _ => ∃ (c k : Int), vs = [.int c, .int k] ∧ ∀ (l : Addr) (H' : Hp), H l = none → Same H H' → Src H' l → Q (.ref l) H'
def spDraw : Sp := fun vs H Q _ => ∃ (l : Addr) (m : Int), vs = [.ref l, .int m] ∧ Src H l ∧ 0 < m ∧ m.natAbs.log2 < 9000 ∧ ∀ (r : Int) (H' : Hp), 0 ≤ r → r < m → But l H H' → Src H' l → Q (.int r) H'
theorem log_small {m : Int} {n : Nat} (h0 : 0 < n) (h : m.natAbs < 2 ^ n) (hn : n ≤ 9000) : m.natAbs.log2 < 9000 := Nat.lt_of_lt_of_le (PySem.Flt.log2_lt_of h0 h) hn
end Dear

namespace Dear
open PySem PySem.Spec PyProof.Rows L2
/-! ### kinds of things -/
def isInt : D → Bool
  | .int _ => true
  | _ => false
def isBl : D → Bool
  | .bl _ => true
  | _ => false
def isStr : D → Bool
  | .str _ => true
  | _ => false
def isLst : D → Bool
  | .lst _ => true
  | _ => false
def isTup : D → Bool
  | .tup _ => true
  | _ => false
def isDct : D → Bool
  | .dct => true
  | _ => false
theorem kd_int : ∀ d : D, kitB (kind d) "int" = some (isInt d || isBl d)
  | .non => (by decide +kernel : kitB "NoneType" "int" = some false)
  | .bl _ => (by decide +kernel : kitB "bool" "int" = some true)
  | .int _ => (by decide +kernel : kitB "int" "int" = some true)
  | .str _ => (by decide +kernel : kitB "str" "int" = some false)
  | .lst _ => (by decide +kernel : kitB "list" "int" = some false)
  | .tup _ => (by decide +kernel : kitB "tuple" "int" = some false)
  | .dct => (by decide +kernel : kitB "dict" "int" = some false)
theorem kd_bool : ∀ d : D, kitB (kind d) "bool" = some (isBl d)
  | .non => (by decide +kernel : kitB "NoneType" "bool" = some false)
  | .bl _ => (by decide +kernel : kitB "bool" "bool" = some true)
  | .int _ => (by decide +kernel : kitB "int" "bool" = some false)
  | .str _ => (by decide +kernel : kitB "str" "bool" = some false)
  | .lst _ => (by decide +kernel : kitB "list" "bool" = some false)
  | .tup _ => (by decide +kernel : kitB "tuple" "bool" = some false)
  | .dct => (by decide +kernel : kitB "dict" "bool" = some false)
theorem kd_str : ∀ d : D, kitB (kind d) "str" = some (isStr d)
  | .non => (by decide +kernel : kitB "NoneType" "str" = some false)
  | .bl _ => (by decide +kernel : kitB "bool" "str" = some false)
  | .int _ => (by decide +kernel : kitB "int" "str" = some false)
  | .str _ => (by decide +kernel : kitB "str" "str" = some true)
  | .lst _ => (by decide +kernel : kitB "list" "str" = some false)
  | .tup _ => (by decide +kernel : kitB "tuple" "str" = some false)
  | .dct => (by decide +kernel : kitB "dict" "str" = some false)
theorem kd_list : ∀ d : D, kitB (kind d) "list" = some (isLst d)
  | .non => (by decide +kernel : kitB "NoneType" "list" = some false)
  | .bl _ => (by decide +kernel : kitB "bool" "list" = some false)
  | .int _ => (by decide +kernel : kitB "int" "list" = some false)
  | .str _ => (by decide +kernel : kitB "str" "list" = some false)
  | .lst _ => (by decide +kernel : kitB "list" "list" = some true)
  | .tup _ => (by decide +kernel : kitB "tuple" "list" = some false)
  | .dct => (by decide +kernel : kitB "dict" "list" = some false)
theorem kd_tuple : ∀ d : D, kitB (kind d) "tuple" = some (isTup d)
  | .non => (by decide +kernel : kitB "NoneType" "tuple" = some false)
  | .bl _ => (by decide +kernel : kitB "bool" "tuple" = some false)
  | .int _ => (by decide +kernel : kitB "int" "tuple" = some false)
  | .str _ => (by decide +kernel : kitB "str" "tuple" = some false)
  | .lst _ => (by decide +kernel : kitB "list" "tuple" = some false)
  | .tup _ => (by decide +kernel : kitB "tuple" "tuple" = some true)
  | .dct => (by decide +kernel : kitB "dict" "tuple" = some false)
theorem kd_dict : ∀ d : D, kitB (kind d) "dict" = some (isDct d)
  | .non => (by decide +kernel : kitB "NoneType" "dict" = some false)
  | .bl _ => (by decide +kernel : kitB "bool" "dict" = some false)
  | .int _ => (by decide +kernel : kitB "int" "dict" = some false)
  | .str _ => (by decide +kernel : kitB "str" "dict" = some false)
  | .lst _ => (by decide +kernel : kitB "list" "dict" = some false)
  | .tup _ => (by decide +kernel : kitB "tuple" "dict" = some false)
  | .dct => (by decide +kernel : kitB "dict" "dict" = some true)
/-! ### is_whole, divisor, lowest, is_fraction, is_name -/
def spWhole : Sp := fun vs H Q _ => ∃ (v : V) (d : D), vs = [v] ∧ Dt H v d ∧ Q (.bl (isInt d)) H
def spDivisor : Sp := fun vs H Q _ => ∃ (a b : Int), vs = [.int a, .int b] ∧ 0 ≤ a ∧ 0 ≤ b ∧ Q (.int (Int.gcd a b)) H
/-- in lowest terms -/
def lowT (t b : Int) : Int := t / (Int.gcd b t : Int)
def lowB (t b : Int) : Int := b / (Int.gcd b t : Int)
def spLowest : Sp := fun vs H Q _ => ∃ (t b : Int), vs = [.int t, .int b] ∧ 0 < b ∧ b.natAbs.log2 < 9000 ∧ ∀ (p : Addr) (H' : Hp), H p = none → Same H H' → H' p = some (.tup [.int (lowT t b), .int (lowB t b)]) → Q (.ref p) H'
def isFr : D → Bool
  | .tup [.int t, .int b] => decide (0 < b) && (Int.gcd b t == 1)
  | _ => false
theorem isFr_len : ∀ {ds : List D}, ds.length ≠ 2 → isFr (.tup ds) = false
  | [], _ => rfl
  | [d], _ => by cases d <;> rfl
  | [_, _], h => absurd rfl h
  | d :: e :: _ :: _, _ => by cases d <;> cases e <;> rfl
def spFr : Sp := fun vs H Q _ => ∃ (v : V) (d : D), vs = [v] ∧ Dt H v d ∧ Ok d ∧ ∀ H', Same H H' → Q (.bl (isFr d)) H'
def letters : Str := "abcdefghijklmnopqrstuvwxyz"
def isNm : D → Bool
  | .str z => decide (1 ≤ z.length ∧ z.length ≤ 8) && z.cps.toList.all fun c => decide (c ∈ letters.cps.toList)
  | _ => false
def spNm : Sp := fun vs H Q _ => ∃ (v : V) (d : D), vs = [v] ∧ Dt H v d ∧ Ok d ∧ ∀ H', Same H H' → Q (.bl (isNm d)) H'
theorem gcd_step {a b : Int} (h0 : 0 ≤ a) (h : 0 < b) : Int.gcd b (a % b) = Int.gcd a b := by
  obtain ⟨m, rfl⟩ := Int.eq_ofNat_of_zero_le h0
  obtain ⟨n, rfl⟩ := Int.eq_ofNat_of_zero_le (Int.le_of_lt h)
  show Nat.gcd n (((m : Int) % (n : Int)).natAbs) = Nat.gcd m n
  rw [← Int.natCast_emod, Int.natAbs_natCast, Nat.gcd_comm n, ← Nat.gcd_rec, Nat.gcd_comm]
theorem abs_if (t : Int) : (if t < 0 then -t else t) = (t.natAbs : Int) := by
  split <;> omega
theorem gcd_abs (b t : Int) : Int.gcd b (t.natAbs : Int) = Int.gcd b t := by
  show Nat.gcd b.natAbs ((t.natAbs : Int).natAbs) = Nat.gcd b.natAbs t.natAbs
  rw [Int.natAbs_natCast]
theorem gcd_pos {b : Int} (t : Int) (h : 0 < b) : 0 < (Int.gcd b t : Int) := by
  have h1 : 0 < Int.gcd b t := Nat.gcd_pos_of_pos_left _ (by omega)
  omega
theorem gcd_le {b : Int} (t : Int) (h : 0 < b) : (Int.gcd b t : Int) ≤ b := by
  have h1 : Int.gcd b t ≤ b.natAbs := Nat.le_of_dvd (by omega) (Nat.gcd_dvd_left _ _)
  omega
theorem gcd_log {b : Int} (t : Int) (h : 0 < b) (hl : b.natAbs.log2 < 9000) : ((Int.gcd b t : Nat) : Int).natAbs.log2 < 9000 := by
  have h1 := gcd_le t h
  have h2 : b.natAbs < 2 ^ 9000 := Nat.lt_of_lt_of_le Nat.lt_log2_self (Nat.pow_le_pow_right (by decide) hl)
  have h3 : ((Int.gcd b t : Nat) : Int).natAbs < 2 ^ 9000 := Nat.lt_of_le_of_lt (by omega) h2
  exact PySem.Flt.log2_lt_of (by decide) h3
/-- a fraction is in lowest terms just where it is what lowest makes of it -/
theorem low_eq {t b : Int} (h : 0 < b) : ((lowT t b == t) && (lowB t b == b)) = (Int.gcd b t == 1) := by
  have g0 := gcd_pos t h
  by_cases e : Int.gcd b t = 1
  · have e1 : lowT t b = t := by unfold lowT; rw [e]; exact Int.ediv_one t
    have e2 : lowB t b = b := by unfold lowB; rw [e]; exact Int.ediv_one b
    rw [e1, e2, e]
    simp
  · have e3 : lowB t b ≠ b := by
      unfold lowB
      have g2 : (Int.gcd b t : Int) ≠ 1 := by omega
      have := Int.ediv_lt_self_of_pos_of_ne_one h g2
      omega
    have e4 : (lowB t b == b) = false := by simpa using e3
    have e5 : (Int.gcd b t == 1) = false := by simpa using e
    rw [e4, e5, Bool.and_false]
/-! ### texts -/
theorem in_letters_asc {c : Nat} (h : c ∈ letters.cps.toList) : c < 128 := by
  have : ∀ c ∈ letters.cps.toList, c < 128 := by decide +kernel
  exact this c h
end Dear

namespace Dear
open PySem PySem.Spec PyProof.Rows L2
/-! ### texts and lists of texts -/
theorem join_tl (ys : List Str) : (Txt.join "" ys).cps.toList = (ys.map fun y => y.cps.toList).flatten := by
  rw [TL.join_eq]
  have e := TL.tl_join ("" : Str) ys
  have e0 : TL.tl ("" : Str) = [] := by decide +kernel
  rw [e0] at e
  have g : ∀ l : List (List Nat), TL.joinL [] l = l.flatten := by
    intro l
    induction l with
    | nil => rfl
    | cons a r ih =>
      cases r with
      | nil => simp [TL.joinL]
      | cons b r =>
        rw [List.flatten_cons, ← ih]
        simp [TL.joinL]
  rw [g] at e
  exact e
/-- texts of one sign each -/
def Ones (ys : List Str) : Prop := ∀ y ∈ ys, y.length = 1 ∧ Asc y
theorem ones_join {ys : List Str} (h : Ones ys) : (Txt.join "" ys).length = ys.length ∧ Asc (Txt.join "" ys) := by
  constructor
  · rw [TL.len_tl, TL.tl, join_tl]
    induction ys with
    | nil => rfl
    | cons a r ih =>
      rw [List.map_cons, List.flatten_cons, List.length_append, ih fun y hy => h y (List.mem_cons_of_mem _ hy), List.length_cons]
      have h1 := (h a List.mem_cons_self).1
      rw [TL.len_tl] at h1
      have h2 : a.cps.toList.length = 1 := h1
      show a.cps.toList.length + r.length = r.length + 1
      omega
  · intro c hc
    rw [join_tl] at hc
    obtain ⟨l, hl, hc⟩ := List.mem_flatten.mp hc
    obtain ⟨y, hy, rfl⟩ := List.mem_map.mp hl
    exact (h y hy).2 c hc
theorem ones_size {ys : List Str} (h : Ones ys) (hl : ys.length ≤ 1000) : (ys.map (·.length)).sum + ys.length * ("" : Str).length ≤ 16777216 := by
  have e : (ys.map (·.length)).sum = ys.length := by
    clear hl
    induction ys with
    | nil => rfl
    | cons a r ih =>
      rw [List.map_cons, List.sum_cons, ih fun y hy => h y (List.mem_cons_of_mem _ hy), (h a List.mem_cons_self).1, List.length_cons]
      omega
  have e0 : ("" : Str).length = 0 := by decide +kernel
  rw [e, e0]
  omega
theorem dp_strs {K : PySem.W.Frag} {H : Hp} : ∀ ys : List Str, DpAll K H (ys.map V.str) (ys.map PyData.str)
  | [] => .nil
  | y :: ys => .cons (.str y) (dp_strs ys)
theorem strOk_asc {z : Str} (h : Asc z) : PyData.strOk z = true := by
  unfold PyData.strOk
  rw [Array.all_eq_true']
  intro c hc
  have := h c (by simpa using hc)
  simp
  omega
theorem depth_strs : ∀ ys : List Str, PyData.depthAll (ys.map PyData.str) = 0
  | [] => rfl
  | y :: ys => by
    rw [List.map_cons]
    show max (PyData.depth (.str y)) (PyData.depthAll (ys.map PyData.str)) = 0
    rw [depth_strs ys]
    rfl
theorem lay_strs : ∀ {ys : List Str}, (∀ y ∈ ys, Asc y) → PyData.canLayAll0 (ys.map PyData.str) = true
  | [], _ => rfl
  | y :: ys, h => by
    rw [List.map_cons]
    show (PyData.canLay0 (.str y) && PyData.canLayAll0 (ys.map PyData.str)) = true
    rw [lay_strs fun z hz => h z (List.mem_cons_of_mem _ hz), Bool.and_true]
    exact strOk_asc (h y List.mem_cons_self)
theorem shaped_strs {ys : List Str} (h : ∀ y ∈ ys, Asc y) : SeqAt.shaped (.list (ys.map PyData.str)) = true := by
  show (PyData.canLayAll0 (ys.map PyData.str) && decide (PyData.depthAll (ys.map PyData.str) + 1 ≤ 64)) = true
  rw [lay_strs h, depth_strs]
  rfl
theorem shaped_nil : SeqAt.shaped (.list []) = true := by decide +kernel
theorem eqv_nil : ∀ ds : List PyData, PyData.eqv (.list ds) (.list []) = ds.isEmpty
  | [] => by simp [PyData.eqv, PyData.eqvAll]
  | _ :: _ => by simp [PyData.eqv, PyData.eqvAll]
theorem all_empty {α β : Type} (l : List α) (p : α → Bool) (f : α → β) : l.all p = ((l.filter fun c => !p c).map f).isEmpty := by
  induction l with
  | nil => rfl
  | cons a r ih =>
    rw [List.all_cons, ih, List.filter_cons]
    cases p a <;> simp
theorem asc_one {c : Nat} (h : c < 128) : Asc ⟨#[c]⟩ := fun x hx => by
  have : x = c := by simpa using hx
  omega
theorem ixN_lt {n : Nat} {r : Int} (h0 : 0 ≤ r) (h1 : r < n) : ixN n r = some r.toNat := by
  unfold ixN
  rw [if_pos h0, if_pos h1]
theorem off_some {l p : Addr} {H : Hp} {o : HO} (h : Off l H p = some o) : p ≠ l ∧ H p = some o := by
  have ne : p ≠ l := fun e => by
    have z := (if_pos e).symm.trans h
    cases z
  rw [off_ne ne] at h
  exact ⟨ne, h⟩
theorem mem_cut {xs : List V} {lo hi : Option Int} {v : V} (h : v ∈ cutV xs lo hi) : v ∈ xs := List.mem_of_mem_drop (List.mem_of_mem_take h)
theorem get_ints {ns : List Int} {xs : List V} (h : ∀ v ∈ xs, v ∈ ns.map V.int) {i : Nat} {v : V} (e : xs[i]? = some v) : ∃ z, v = .int z ∧ z ∈ ns := by
  have := h v (List.mem_of_getElem? e)
  obtain ⟨z, hz, rfl⟩ := List.mem_map.mp this
  exact ⟨z, rfl, hz⟩
/-- one of a list that was made -/
theorem pick {l : Addr} {H H1 : Hp} {p : Addr} {ds : List D} (h : Dt (Off l H) (.ref p) (.lst ds)) (ok : OkAll ds) (B : But l H H1) {r : Int} (r0 : 0 ≤ r) (r1 : r < ds.length) :
    ∃ (xs : List V) (v : V) (d : D), H1 p = some (.lst xs) ∧ atI xs r = some v ∧ Dt (Off l H1) v d ∧ Ok d ∧ d ∈ ds := by
  cases h with
  | lst ha hall =>
    rename_i xs
    obtain ⟨ne, hp⟩ := off_some ha
    obtain ⟨v, hv, _, hr⟩ := at_lt (xs := xs) r0 (by rw [hall.length]; exact r1)
    obtain ⟨d, hd, h⟩ := hall.get hr
    have hm := List.mem_of_getElem? hd
    exact ⟨xs, v, d, B _ _ hp ne, hv, h.same B.off, ok.mem hm, hm⟩
theorem But.same0 {l : Addr} {H H1 H2 : Hp} (s : Same H H1) (h : H l = none) (B : But l H1 H2) : Same H H2 := fun c o e => B c o (s c o e) (ne_of_none e h)
theorem log_le {m : Int} (n : Nat) (h : m.natAbs ≤ n) (hn : n < 2 ^ 40 := by decide) : m.natAbs.log2 < 9000 := log_small (n := 40) (by decide) (Nat.lt_of_le_of_lt h hn) (by decide)
end Dear

namespace Dear
open PySem PySem.Spec PyProof.Rows L2
/-! ### list(text), tuple(text) -/
def sgnsV (z : Str) : List V := z.cps.toList.map fun c => V.str ⟨#[c]⟩
theorem valsAt : ∀ {xs : List V} {us : List Value}, xs.length = us.length → (∀ (j : Nat) (x : V) (u : Value), xs[j]? = some x → us[j]? = some u → RelV x u) → Vals xs us
  | [], [], _, _ => .nil
  | [], _ :: _, h, _ => by simp at h
  | _ :: _, [], h, _ => by simp at h
  | x :: xs, u :: us, h, f => .cons (f 0 x u rfl rfl) (valsAt (by simpa using h) fun j y w h1 h2 => f (j + 1) y w (by simpa using h1) (by simpa using h2))
theorem vals_signs {z : Str} {acc : Array Value} (h : ItemsOf (SignAt z) acc z.cps.size) : Vals (sgnsV z) acc.toList := by
  have el : acc.toList.length = z.cps.size := by rw [Array.length_toList]; exact h.1
  refine valsAt (by unfold sgnsV; rw [List.length_map, el, Array.length_toList]) fun j x u h1 h2 => ?_
  obtain ⟨c, t, e1, e2⟩ := h.2 j u (by rw [← h2, Array.getElem?_toList])
  unfold sgnsV at h1
  rw [List.getElem?_map, Array.getElem?_toList, e1] at h1
  cases h1
  exact ⟨t, e2⟩
section
variable {X : Cx}
def rListTx : List V → Hp → VK → Prop := fun xs H Q => ∃ z, xs = [.str z] ∧ z.length ≤ 1000 ∧ ∀ l, H l = none → Q (.ref l) (upd H l (.lst (sgnsV z)))
def rTupTx : List V → Hp → VK → Prop := fun xs H Q => ∃ z, xs = [.str z] ∧ z.length ≤ 1000 ∧ ∀ l, H l = none → Q (.ref l) (upd H l (.tup (sgnsV z)))
theorem call_list_tx (hc : X.calm = true) : CallR X (.type "list") rListTx := by
  intro pins s σ H xs us Q I r h
  obtain ⟨z, e, hz, q⟩ := h
  subst e
  obtain ⟨u, eu, t, rfl⟩ := vals1 r
  subst eu
  have hz' : z.cps.size ≤ sizeLine := sz_lit hz
  refine call_list_str (hn := hz') (I.ok.hd hc) z t fun h' tk acc c' hk e' hi => ?_
  refine ⟨.ref s.heap.objs.size, upd H s.heap.objs.size (.lst (sgnsV z)), I.laid hk (Nat.le_refl _) (show ObjOk X.prog X.w _ _ _ (.lst (sgnsV z)) from ⟨?_, acc.toList, c', vals_signs hi, ?_⟩), rfl, q _ (I.hok.fresh (Nat.le_refl _))⟩
  · unfold sgnsV
    rw [List.length_map, Array.length_toList]
    exact hz'
  · rw [Array.toArray_toList]; exact e'
theorem call_tuple_tx (hc : X.calm = true) : CallR X (.type "tuple") rTupTx := by
  intro pins s σ H xs us Q I r h
  obtain ⟨z, e, hz, q⟩ := h
  subst e
  obtain ⟨u, eu, t, rfl⟩ := vals1 r
  subst eu
  have hz' : z.cps.size ≤ sizeLine := sz_lit hz
  refine call_tuple_str (hsz := hz') (I.ok.hd hc) z t fun h' tk acc hk hi => ?_
  have I2 : Inv X pins σ H { s with heap := h', toks := tk } := I.kept hk
  refine ⟨.ref h'.objs.size, upd H h'.objs.size (.tup (sgnsV z)), I2.laid (t' := tk) (fun c o e => Heap.get?_push_of_some _ e) (Nat.le_refl _) (show ObjOk X.prog X.w _ _ _ (.tup (sgnsV z)) from ⟨?_, acc.toList, vals_signs hi, ?_⟩), rfl, q _ (I2.hok.fresh (Nat.le_refl _))⟩
  · unfold sgnsV
    rw [List.length_map, Array.length_toList]
    exact hz'
  · rw [Array.toArray_toList]; exact IsTup.new _ _
end
section
variable {l : Addr} {σ : L2.St} {H : Hp}
theorem dt_signs {H : Hp} : ∀ cs : List Nat, DtAll H (cs.map fun c => V.str ⟨#[c]⟩) (cs.map fun c => D.str ⟨#[c]⟩)
  | [] => .nil
  | c :: cs => .cons (.str _) (dt_signs cs)
theorem mk_ltx {i : Nat} {z : Str} {o : HO} (e : σ[i]? = some (some (.str z))) (hz : z.length ≤ 1000) (hl : H l = some o) : Mk l σ (tCB rListTx (tCons (tVar i) tNil)) H (.lst (z.cps.toList.map fun c => D.str ⟨#[c]⟩)) := fun H1 s Q q => by
  refine ⟨_, e, z, rfl, hz, fun p hp => ?_⟩
  have ne : p ≠ l := fun e => by
    subst e
    rw [s _ _ hl] at hp
    cases hp
  exact q (.ref p) _ (Same.upd hp) (.lst (by rw [off_ne ne]; exact upd_same) (dt_signs _))
theorem mk_ttx {i : Nat} {z : Str} {o : HO} (e : σ[i]? = some (some (.str z))) (hz : z.length ≤ 1000) (hl : H l = some o) : Mk l σ (tCB rTupTx (tCons (tVar i) tNil)) H (.tup (z.cps.toList.map fun c => D.str ⟨#[c]⟩)) := fun H1 s Q q => by
  refine ⟨_, e, z, rfl, hz, fun p hp => ?_⟩
  have ne : p ≠ l := fun e => by
    subst e
    rw [s _ _ hl] at hp
    cases hp
  exact q (.ref p) _ (Same.upd hp) (.tup (by rw [off_ne ne]; exact upd_same) (dt_signs _))
end
end Dear

namespace Dear
open PySem PySem.Spec PyProof.Rows L2
/-- law's: a list of at most 63 ints is handed in, True comes out -/
def spLaw (K : PySem.W.Frag) : Sp := fun vs H Q _ => ∃ (a : Addr) (ns : List Int), vs = [.ref a] ∧ SqL K H a (ns.map V.int) ∧ ns.length ≤ 63 ∧ ∀ H', Q (.bl true) H'
end Dear

namespace Dear
open PySem PySem.Spec PyProof.Rows L2
/-! ### slices of texts -/
def sgn (c : Nat) : Str := ⟨#[c]⟩
theorem str_one {z : Str} (h : z.length = 1) : ∃ c, z = ⟨#[c]⟩ := by
  obtain ⟨⟨l⟩⟩ := z
  match l, h with
  | [c], _ => exact ⟨c, rfl⟩
theorem inV_strs (z : Str) : ∀ ys : List Str, inV (.str z) (ys.map V.str) = decide (z ∈ ys)
  | [] => by simp [inV]
  | y :: ys => by
    have ih := inV_strs z ys
    unfold inV at ih ⊢
    rw [List.map_cons, List.any_cons, ih]
    by_cases e : y = z
    · subst e
      simp [eqV]
    · have e' : ¬ z = y := fun q => e q.symm
      have h1 : eqV (.str y) (.str z) = false := by simp [eqV, e]
      simp [h1, e']
theorem flat_str (ys : List Str) : (ys.map V.str).all flatV = true := by
  rw [List.all_eq_true]
  intro x hx
  obtain ⟨y, _, rfl⟩ := List.mem_map.mp hx
  rfl
theorem sgn_inj {a b : Nat} (h : sgn a = sgn b) : a = b := by
  have := congrArg (fun z : Str => z.cps.toList) h
  simpa [sgn] using this
/-- the text of these code points -/
def txt (l : List Nat) : Str := ⟨l.toArray⟩
theorem txt_list (l : List Nat) : (txt l).cps.toList = l := List.toList_toArray ..
theorem txt_length (l : List Nat) : (txt l).length = l.length := List.size_toArray ..
theorem txt_of (z : Str) : z = txt z.cps.toList := by
  cases z
  rfl
theorem str_len (a b : Str) : (a ++ b).length = a.length + b.length := by
  show (a.cps ++ b.cps).size = _
  exact Array.size_append
theorem txt_inj {a b : List Nat} (h : txt a = txt b) : a = b := by
  have := congrArg (fun z : Str => z.cps.toList) h
  simpa [txt_list] using this
theorem txt_app (a b : List Nat) : txt a ++ txt b = txt (a ++ b) := by
  show (⟨a.toArray ++ b.toArray⟩ : Str) = ⟨(a ++ b).toArray⟩
  simp
theorem cut_txt (l : List Nat) (lo hi : Option Int) : cutS (txt l) lo hi = txt ((l.drop (HT.sIx l.length 0 lo)).take (HT.sIx l.length l.length hi - HT.sIx l.length 0 lo)) := by
  unfold cutS
  rw [txt_list, txt_length]
  rfl
theorem cut_pre (l : List Nat) (j : Nat) : cutS (txt l) none (some (j : Int)) = txt (l.take j) := by
  rw [cut_txt, HT.sIx_none, HT.sIx_nat, List.drop_zero, Nat.sub_zero]
  congr 1
  by_cases h : j ≤ l.length
  · rw [Nat.min_eq_left h]
  · rw [Nat.min_eq_right (by omega), List.take_length, List.take_of_length_le (by omega)]
theorem cut_from (l : List Nat) (j : Nat) : cutS (txt l) (some (j : Int)) none = txt (l.drop j) := by
  rw [cut_txt, HT.sIx_none, HT.sIx_nat]
  congr 1
  by_cases h : j ≤ l.length
  · rw [Nat.min_eq_left h, List.take_of_length_le (by rw [List.length_drop]; exact Nat.le_refl _)]
  · rw [Nat.min_eq_right (by omega), List.drop_length, List.drop_of_length_le (by omega), List.take_nil]
theorem cut_last0 : cutS (txt []) (some (-1)) none = "" := by decide +kernel
theorem cut_last (l : List Nat) (c : Nat) : cutS (txt (l ++ [c])) (some (-1)) none = txt [c] := by
  rw [cut_txt, HT.sIx_none]
  have e1 : HT.sIx (l ++ [c]).length 0 (some (-1)) = l.length := by
    show (if (-1 : Int) < 0 then (-1 + ((l ++ [c]).length : Int)).toNat else min (-1 : Int).toNat (l ++ [c]).length) = l.length
    rw [if_pos (by decide), List.length_append]
    show (-1 + ((l.length + 1 : Nat) : Int)).toNat = _
    omega
  rw [e1, List.drop_left, List.take_of_length_le]
  rw [List.length_append]
  show 1 ≤ l.length + 1 - l.length
  omega
theorem cut_init {l : List Nat} {e : Nat} : cutS (txt (l ++ [e])) none (some (-1)) = txt l := by
  have e1 : HT.sIx (l ++ [e]).length (l ++ [e]).length (some (-1)) = l.length := by
    show (if (-1 : Int) < 0 then (-1 + ((l ++ [e]).length : Int)).toNat else min (-1 : Int).toNat (l ++ [e]).length) = l.length
    rw [if_pos (by decide), List.length_append]
    show (-1 + ((l.length + 1 : Nat) : Int)).toNat = _
    omega
  rw [cut_txt, HT.sIx_none, e1, List.drop_zero, Nat.sub_zero, List.take_left]
theorem at_last {l : List Nat} {e : Nat} : atI (txt (l ++ [e])).cps.toList (-1) = some e := by
  rw [txt_list]
  unfold atI ixN
  rw [if_neg (by decide), if_pos (by rw [List.length_append]; show -((l.length + 1 : Nat) : Int) ≤ -1; omega)]
  have e1 : (-1 + ((l ++ [e]).length : Int)).toNat = l.length := by
    rw [List.length_append]
    show (-1 + ((l.length + 1 : Nat) : Int)).toNat = _
    omega
  rw [e1]
  show (l ++ [e])[l.length]? = some e
  rw [List.getElem?_append_right (Nat.le_refl _), Nat.sub_self]
  rfl
theorem sgn_txt (c : Nat) : sgn c = txt [c] := rfl
theorem txt_snoc (l : List Nat) (c : Nat) : txt l ++ sgn c = txt (l ++ [c]) := by
  show (⟨l.toArray ++ #[c]⟩ : Str) = ⟨(l ++ [c]).toArray⟩
  simp
/-- the sign ahead of the j-th one -/
def aheadOf (l : List Nat) (j : Nat) : Str := cutS (cutS (txt l) none (some (j : Int))) (some (-1)) none
theorem ahead_zero (l : List Nat) : aheadOf l 0 = "" := by
  unfold aheadOf
  rw [cut_pre, List.take_zero]
  exact cut_last0
theorem ahead_succ {l : List Nat} {j : Nat} {c : Nat} (h : l[j]? = some c) : aheadOf l (j + 1) = txt [c] := by
  unfold aheadOf
  rw [cut_pre, List.take_add_one, h, Option.toList_some, cut_last]
end Dear

namespace Dear
open PySem PySem.Spec PyProof.Rows L2
/-! ### data of tuples alone: they stay whatever lists are changed -/
mutual
def Pu : D → Prop
  | .lst _ => False
  | .dct => False
  | .tup ds => PuAll ds
  | _ => True
def PuAll : List D → Prop
  | [] => True
  | d :: ds => Pu d ∧ PuAll ds
end
def TP (H H' : Hp) : Prop := ∀ b xs, H b = some (.tup xs) → H' b = some (.tup xs)
theorem TP.refl (H : Hp) : TP H H := fun _ _ h => h
theorem TP.trans {H H1 H2 : Hp} (a : TP H H1) (b : TP H1 H2) : TP H H2 := fun c xs h => b c xs (a c xs h)
theorem TP.same {H H' : Hp} (s : Same H H') : TP H H' := fun b xs h => s b _ h
theorem TP.but {l : Addr} {H H' : Hp} (s : But l H H') {xs : List V} (hl : H l = some (.lst xs)) : TP H H' := fun b ys h => s b _ h (ne_of h hl (by intro z; cases z))
theorem TP.src {l : Addr} {H H' : Hp} (s : But l H H') (hl : Src H l) : TP H H' := by
  obtain ⟨n, z, e, _⟩ := hl
  exact TP.but s e
theorem TP.upd {H : Hp} {p : Addr} {xs : List V} {o : HO} (h : H p = some (.lst xs)) : TP H (L2.upd H p o) := fun b ys e => by
  rw [upd_ne (ne_of e h (by intro z; cases z))]
  exact e
mutual
theorem Dt.tp {H H' : Hp} (t : TP H H') : ∀ {v : V} {d : D}, Pu d → Dt H v d → Dt H' v d
  | _, _, _, .non => .non
  | _, _, _, .bl b => .bl b
  | _, _, _, .int i => .int i
  | _, _, _, .str z => .str z
  | _, _, p, .lst _ _ => p.elim
  | _, _, p, .tup h a => .tup (t _ _ h) (DtAll.tp t p a)
  | _, _, p, .dct _ => p.elim
theorem DtAll.tp {H H' : Hp} (t : TP H H') : ∀ {vs : List V} {ds : List D}, PuAll ds → DtAll H vs ds → DtAll H' vs ds
  | _, _, _, .nil => .nil
  | _, _, p, .cons a b => .cons (Dt.tp t p.1 a) (DtAll.tp t p.2 b)
end
theorem PuAll.app : ∀ {ds es : List D}, PuAll ds → PuAll es → PuAll (ds ++ es)
  | [], _, _, h => h
  | _ :: _, _, a, h => ⟨a.1, PuAll.app a.2 h⟩
theorem OkAll.app : ∀ {ds es : List D}, OkAll ds → OkAll es → OkAll (ds ++ es)
  | [], _, _, h => h
  | _ :: _, _, a, h => ⟨a.1, OkAll.app a.2 h⟩
theorem DtAll.take {H : Hp} : ∀ {xs : List V} {ds : List D} (n : Nat), DtAll H xs ds → DtAll H (xs.take n) (ds.take n)
  | _, _, 0, _ => .nil
  | _, _, _ + 1, .nil => .nil
  | _, _, n + 1, .cons a b => .cons a (DtAll.take n b)
theorem drop_get {α : Type} {l : List α} {i : Nat} {x : α} (h : l[i]? = some x) : l.drop i = x :: l.drop (i + 1) := by
  obtain ⟨h1, h2⟩ := List.getElem?_eq_some_iff.mp h
  rw [List.drop_eq_getElem_cons h1, h2]
theorem take_more {α : Type} {l : List α} {i : Nat} {x : α} (h : l[i]? = some x) : l.take (i + 1) = l.take i ++ [x] := by
  rw [List.take_succ, h]
  rfl
end Dear

namespace Dear
open PySem PySem.Spec PyProof.Rows L2
/-! ### data as the library's, for == -/
mutual
def py : D → PyData
  | .non => .none
  | .bl b => .bool b
  | .int i => .int i
  | .str z => .str z
  | .lst ds => .list (pyAll ds)
  | .tup ds => .tuple (pyAll ds)
  | .dct => .none
def pyAll : List D → List PyData
  | [] => []
  | d :: ds => py d :: pyAll ds
end
mutual
def NoD : D → Prop
  | .dct => False
  | .lst ds => NoDAll ds
  | .tup ds => NoDAll ds
  | _ => True
def NoDAll : List D → Prop
  | [] => True
  | d :: ds => NoD d ∧ NoDAll ds
end
mutual
theorem Dt.dp {K : PySem.W.Frag} {H : Hp} : ∀ {v : V} {d : D}, NoD d → Dt H v d → Dp K H v (py d)
  | _, _, _, .non => .non
  | _, _, _, .bl b => .bl b
  | _, _, _, .int i => .int i
  | _, _, _, .str z => .str z
  | _, _, n, .lst h a => .lst (SqL.of h) (DtAll.dp n a)
  | _, _, n, .tup h a => .tup (SqT.of h) (DtAll.dp n a)
  | _, _, n, .dct _ => n.elim
theorem DtAll.dp {K : PySem.W.Frag} {H : Hp} : ∀ {vs : List V} {ds : List D}, NoDAll ds → DtAll H vs ds → DpAll K H vs (pyAll ds)
  | _, _, _, .nil => .nil
  | _, _, n, .cons a b => .cons (Dt.dp n.1 a) (DtAll.dp n.2 b)
end
mutual
theorem lay_py : ∀ {d : D}, Ok d → NoD d → PyData.canLay0 (py d) = true
  | .non, _, _ => rfl
  | .bl _, _, _ => rfl
  | .int _, _, _ => rfl
  | .str _, o, _ => strOk_asc o.2
  | .lst _, o, n => layAll_py o n
  | .tup _, o, n => layAll_py o n
  | .dct, _, n => n.elim
theorem layAll_py : ∀ {ds : List D}, OkAll ds → NoDAll ds → PyData.canLayAll0 (pyAll ds) = true
  | [], _, _ => rfl
  | d :: ds, o, n => by
    show (PyData.canLay0 (py d) && PyData.canLayAll0 (pyAll ds)) = true
    rw [lay_py o.1 n.1, layAll_py o.2 n.2]
    rfl
end
/-! how deep -/
mutual
def dep : D → Nat
  | .lst ds => depAll ds + 1
  | .tup ds => depAll ds + 1
  | _ => 0
def depAll : List D → Nat
  | [] => 0
  | d :: ds => max (dep d) (depAll ds)
end
mutual
theorem dep_py : ∀ d : D, PyData.depth (py d) = dep d
  | .non => rfl
  | .bl _ => rfl
  | .int _ => rfl
  | .str _ => rfl
  | .lst ds => congrArg (· + 1) (depAll_py ds)
  | .tup ds => congrArg (· + 1) (depAll_py ds)
  | .dct => rfl
theorem depAll_py : ∀ ds : List D, PyData.depthAll (pyAll ds) = depAll ds
  | [] => rfl
  | d :: ds => by
    show max (PyData.depth (py d)) (PyData.depthAll (pyAll ds)) = max (dep d) (depAll ds)
    rw [dep_py d, depAll_py ds]
end
theorem shaped_py {d : D} (o : Ok d) (n : NoD d) (h : dep d ≤ 64) : SeqAt.shaped (py d) = true := by
  show (PyData.canLay0 (py d) && decide (PyData.depth (py d) ≤ 64)) = true
  rw [lay_py o n, dep_py, decide_eq_true h]
  rfl
theorem depAll_le : ∀ {ds : List D} {n : Nat}, (∀ d ∈ ds, dep d ≤ n) → depAll ds ≤ n
  | [], _, _ => Nat.zero_le _
  | d :: ds, n, h => Nat.max_le.mpr ⟨h d List.mem_cons_self, depAll_le fun x hx => h x (List.mem_cons_of_mem _ hx)⟩
theorem noAll_of : ∀ {ds : List D}, (∀ d ∈ ds, NoD d) → NoDAll ds
  | [], _ => trivial
  | d :: ds, h => ⟨h d List.mem_cons_self, noAll_of fun x hx => h x (List.mem_cons_of_mem _ hx)⟩
theorem strs_flat (zs : List Str) : (∀ d ∈ zs.map D.str, dep d ≤ 0) ∧ ∀ d ∈ zs.map D.str, NoD d := by
  constructor <;> intro d hd <;> obtain ⟨z, _, rfl⟩ := List.mem_map.mp hd
  · exact Nat.le_refl _
  · trivial
theorem eqv_same {d : PyData} (h : SeqAt.shaped d = true) : PyData.eqv d d = true := SeqAt.eqv_refl _ (SeqAt.canLay_of_shaped h)
end Dear

namespace Dear
open PySem PySem.Spec PyProof.Rows L2
/-! ### text * number -/
theorem fold_rep (a : Array Nat) : ∀ (k : Nat) (acc : Array Nat), ((List.replicate k a).foldl (· ++ ·) acc).toList = acc.toList ++ (List.replicate k a.toList).flatten
  | 0, acc => by simp
  | k + 1, acc => by
    rw [List.replicate_succ, List.replicate_succ, List.foldl_cons, fold_rep a k, List.flatten_cons, Array.toList_append, List.append_assoc]
def repT (l : List Nat) (k : Nat) : List Nat := (List.replicate k l).flatten
theorem repT_len (l : List Nat) (k : Nat) : (repT l k).length = k * l.length := by
  unfold repT
  simp
def rRepS : R2 := fun x y H Q => ∃ (l : List Nat) (n : Int), x = .str (txt l) ∧ y = .int n ∧ 0 ≤ n ∧ n ≤ 1000 ∧ l.length ≤ 1000 ∧ Q (.str (txt (repT l n.toNat))) H
theorem op_repS {X : Cx} : OpR X (binaryOp .Mult) rRepS := by
  intro pins s σ H x y v u Q I rx ry h
  obtain ⟨l, n, rfl, rfl, h0, h1, hl, q⟩ := h
  obtain ⟨t, rfl⟩ := rx
  obtain ⟨t', rfl⟩ := ry
  have ln := txt_length l
  have big : l.length * n.toNat ≤ 1000 * 1000 := Nat.mul_le_mul hl (by omega)
  refine PySem.P.mul_str (x := txt l) (by rw [decide_eq_false (by omega), decide_eq_false (by omega)]; rfl) (fun h2 _ => ?_) (fun _ _ => ?_) ?_
  · have h3 : 0 < n := by omega
    have h4 : ((txt l).length : Int) ≤ (2 ^ 63 - 1) / n := by
      rw [Int.le_ediv_iff_mul_le h3, ln]
      have e : ((l.length * n.toNat : Nat) : Int) = (l.length : Int) * n := by
        rw [Int.natCast_mul, Int.toNat_of_nonneg h0]
      rw [← e]
      omega
    omega
  · unfold Builtin.Str.tooLong
    rw [ln]
    refine decide_eq_false ?_
    have := sz_lit (n := 0) (by decide)
    rw [sizeLine_eq]
    omega
  · by_cases e1 : n < 1
    · rw [if_pos e1]
      have e2 : n = 0 := by omega
      subst e2
      exact ⟨by decide, .str (txt (repT l 0)), H, I.tok _, ⟨_, rfl⟩, q⟩
    · rw [if_neg e1]
      by_cases e2 : (n == 1 || (txt l).length == 0) = true
      · rw [if_pos e2]
        have e3 : repT l n.toNat = l := by
          rw [ln] at e2
          simp only [Bool.or_eq_true, beq_iff_eq] at e2
          rcases e2 with e2 | e2
          · subst e2
            simp [repT]
          · have e3 : l = [] := List.length_eq_zero_iff.mp e2
            subst e3
            simp [repT]
        rw [e3] at q
        exact ⟨.str (txt l), H, I, ⟨_, rfl⟩, q⟩
      · rw [if_neg e2]
        have e3 : (⟨(List.replicate n.toNat (txt l).cps).foldl (· ++ ·) #[]⟩ : Str) = txt (repT l n.toNat) := by
          rw [txt_of ⟨(List.replicate n.toNat (txt l).cps).foldl (· ++ ·) #[]⟩]
          congr 1
          show ((List.replicate n.toNat (txt l).cps).foldl (· ++ ·) #[]).toList = _
          rw [fold_rep, txt_list]
          rfl
        rw [e3]
        refine ⟨?_, .str (txt (repT l n.toNat)), H, I.tok _, ⟨_, rfl⟩, q⟩
        rw [txt_length, repT_len, Nat.mul_comm, sizeLine_eq]
        omega
end Dear

namespace Dear
open PySem PySem.Spec PyProof.Rows L2
/-! ### names and wants as author B's laws draw them -/
def letN (i : Nat) : Nat := letters.cps.toList.getD i 0
def sufL (a : Nat) : List Nat := if a / 26 = 0 then [] else if a / 26 = 1 then [97] else [122, 122]
def tellL (a : Nat) : List Nat := letN (a % 26) :: sufL a
def moreL (s : Nat) : List Nat := repT [letN (s % 26)] (s / 26 % 6)
def nameL (k s : Nat) : List Nat := if s % 2 = 0 then moreL s ++ tellL ((37 * k + s) % 61) else tellL ((37 * k + s) % 61) ++ moreL s
theorem letN_at {i : Nat} (h : i < 26) : letters.cps.toList[i]? = some (letN i) := by
  have hl : i < letters.cps.toList.length := by
    rw [show letters.cps.toList.length = 26 from by decide +kernel]
    exact h
  unfold letN
  rw [List.getD_eq_getElem?_getD, List.getElem?_eq_getElem hl]
  rfl
theorem letN_mem {i : Nat} (h : i < 26) : letN i ∈ letters.cps.toList := List.mem_of_getElem? (letN_at h)
theorem letN_atI {i : Nat} (h : i < 26) : atI letters.cps.toList (i : Int) = some (letN i) := atI_nat (letN_at h)
theorem suf_mem (a : Nat) : ∀ c ∈ sufL a, c ∈ letters.cps.toList := by
  unfold sufL
  split
  · exact fun _ h => nomatch h
  · split
    · decide +kernel
    · decide +kernel
theorem suf_len (a : Nat) : (sufL a).length ≤ 2 := by
  unfold sufL
  split
  · decide
  · split <;> decide
theorem tell_inj : ∀ a < 61, ∀ b < 61, tellL a = tellL b → a = b := by decide +kernel
theorem name_of (k s : Nat) : (∀ c ∈ nameL k s, c ∈ letters.cps.toList) ∧ 1 ≤ (nameL k s).length ∧ (nameL k s).length ≤ 8 := by
  have m1 : ∀ c ∈ moreL s, c ∈ letters.cps.toList := fun c hc => by
    unfold moreL repT at hc
    obtain ⟨l, hl, hc⟩ := List.mem_flatten.mp hc
    have := List.eq_of_mem_replicate hl
    subst this
    have : c = letN (s % 26) := by simpa using hc
    subst this
    exact letN_mem (Nat.mod_lt _ (by decide))
  have m2 : (moreL s).length ≤ 5 := by
    unfold moreL
    rw [repT_len]
    show s / 26 % 6 * 1 ≤ 5
    omega
  have t1 : ∀ a, ∀ c ∈ tellL a, c ∈ letters.cps.toList := fun a c hc => by
    rcases List.mem_cons.mp hc with rfl | hc
    · exact letN_mem (Nat.mod_lt _ (by decide))
    · exact suf_mem a c hc
  have t2 : ∀ a, (tellL a).length = (sufL a).length + 1 := fun _ => rfl
  have t3 := suf_len ((37 * k + s) % 61)
  have t4 := t2 ((37 * k + s) % 61)
  unfold nameL
  split
  · refine ⟨fun c hc => ?_, ?_, ?_⟩
    · rcases List.mem_append.mp hc with hc | hc
      · exact m1 c hc
      · exact t1 _ c hc
    · rw [List.length_append]; omega
    · rw [List.length_append]; omega
  · refine ⟨fun c hc => ?_, ?_, ?_⟩
    · rcases List.mem_append.mp hc with hc | hc
      · exact t1 _ c hc
      · exact m1 c hc
    · rw [List.length_append]; omega
    · rw [List.length_append]; omega
theorem name_inj {s i j : Nat} (hi : i < 61) (hj : j < 61) (h : nameL i s = nameL j s) : i = j := by
  have e : tellL ((37 * i + s) % 61) = tellL ((37 * j + s) % 61) := by
    unfold nameL at h
    split at h
    · exact List.append_cancel_left h
    · exact List.append_cancel_right h
  have := tell_inj _ (Nat.mod_lt _ (by decide)) _ (Nat.mod_lt _ (by decide)) e
  omega
/-! ### wants -/
def wantD (w : List Nat × Int) : D := .tup [.str (txt w.1), .int w.2]
structure WOk (w : List Nat × Int) : Prop where
  l : ∀ c ∈ w.1, c ∈ letters.cps.toList
  n1 : 1 ≤ w.1.length
  n8 : w.1.length ≤ 8
  c0 : 0 ≤ w.2
  c9 : w.2 ≤ 1000000000
structure WsOk (ws : List (List Nat × Int)) : Prop where
  all : ∀ w ∈ ws, WOk w
  nd : (ws.map Prod.fst).Nodup
theorem names_nodup (s n : Nat) (h : n ≤ 61) : ((List.range n).map fun k => nameL k s).Nodup := by
  rw [List.nodup_iff_pairwise_ne, List.pairwise_map]
  refine List.Pairwise.imp_of_mem ?_ (List.nodup_iff_pairwise_ne.mp List.nodup_range)
  intro a b ha hb hne e
  exact hne (name_inj (by have := List.mem_range.mp ha; omega) (by have := List.mem_range.mp hb; omega) e)
def isWant : D → Bool
  | .tup [a, .int c] => isNm a && decide (0 ≤ c ∧ c ≤ 1000000000)
  | _ => false
def nameD : D → Str
  | .tup (.str z :: _) => z
  | _ => ""
/-- the first that can't stand -/
def badAt (i : Nat) : List Str → List D → Option V
  | _, [] => none
  | seen, d :: r => if isWant d && !decide (nameD d ∈ seen) then badAt (i + 1) (seen ++ [nameD d]) r else some (.int (i : Nat))
def wantsBad : D → Option V
  | .lst ds => if 1 ≤ ds.length ∧ ds.length ≤ 20 then badAt 0 [] ds else some .non
  | _ => some .non
theorem nm_txt {l : List Nat} (h : ∀ c ∈ l, c ∈ letters.cps.toList) (h1 : 1 ≤ l.length) (h8 : l.length ≤ 8) : isNm (.str (txt l)) = true := by
  show (decide (1 ≤ (txt l).length ∧ (txt l).length ≤ 8) && (txt l).cps.toList.all fun c => decide (c ∈ letters.cps.toList)) = true
  rw [txt_length, txt_list, decide_eq_true ⟨h1, h8⟩, Bool.true_and, List.all_eq_true]
  exact fun c hc => decide_eq_true (h c hc)
theorem WOk.is {w : List Nat × Int} (h : WOk w) : isWant (wantD w) = true := by
  show (isNm (.str (txt w.1)) && decide (0 ≤ w.2 ∧ w.2 ≤ 1000000000)) = true
  rw [nm_txt h.l h.n1 h.n8, decide_eq_true ⟨h.c0, h.c9⟩]
  rfl
theorem bad_none : ∀ {ws : List (List Nat × Int)} {seen : List (List Nat)} {i : Nat}, (∀ w ∈ ws, WOk w) → (seen ++ ws.map Prod.fst).Nodup → badAt i (seen.map txt) (ws.map wantD) = none
  | [], _, _, _, _ => rfl
  | w :: ws, seen, i, h, nd => by
    have h1 := (h w List.mem_cons_self).is
    have h2 : ¬ txt w.1 ∈ seen.map txt := fun q => by
      obtain ⟨l, hl, e⟩ := List.mem_map.mp q
      have e := txt_inj e
      subst e
      exact (List.nodup_append.mp nd).2.2 _ hl _ (List.mem_cons_self ..) rfl
    show (if isWant (wantD w) && !decide (txt w.1 ∈ seen.map txt) then badAt (i + 1) (seen.map txt ++ [txt w.1]) (ws.map wantD) else _) = none
    rw [h1, decide_eq_false h2, if_pos (by rfl)]
    have := bad_none (ws := ws) (seen := seen ++ [w.1]) (i := i + 1) (fun x hx => h x (List.mem_cons_of_mem _ hx)) (by rw [List.append_assoc]; exact nd)
    rw [List.map_append] at this
    exact this
theorem wants_good {ws : List (List Nat × Int)} (h : WsOk ws) (h1 : 1 ≤ ws.length) (h2 : ws.length ≤ 20) : wantsBad (.lst (ws.map wantD)) = none := by
  show (if 1 ≤ (ws.map wantD).length ∧ (ws.map wantD).length ≤ 20 then badAt 0 [] (ws.map wantD) else some .non) = none
  rw [List.length_map, if_pos ⟨h1, h2⟩]
  exact bad_none (seen := []) h.all h.nd
theorem WOk.facts {w : List Nat × Int} (h : WOk w) : Ok (wantD w) ∧ NoD (wantD w) ∧ dep (wantD w) ≤ 1 := by
  refine ⟨⟨⟨?_, fun c hc => ?_⟩, ?_, trivial⟩, ⟨trivial, trivial, trivial⟩, Nat.le_refl _⟩
  · rw [txt_length]
    have := h.n8
    omega
  · rw [txt_list] at hc
    exact in_letters_asc (h.l c hc)
  · have h1 := h.c0
    have h2 := h.c9
    exact Nat.lt_of_lt_of_le (show w.2.natAbs < 2 ^ 40 by omega) (Nat.pow_le_pow_right (by decide) (by decide))
theorem wants_facts {ws : List (List Nat × Int)} (h : ∀ w ∈ ws, WOk w) : Ok (.lst (ws.map wantD)) ∧ NoD (.lst (ws.map wantD)) ∧ dep (.lst (ws.map wantD)) ≤ 64 := by
  refine ⟨?_, ?_, ?_⟩
  · show OkAll (ws.map wantD)
    induction ws with
    | nil => trivial
    | cons w r ih => exact ⟨(h w List.mem_cons_self).facts.1, ih fun x hx => h x (List.mem_cons_of_mem _ hx)⟩
  · refine noAll_of fun d hd => ?_
    obtain ⟨w, hw, rfl⟩ := List.mem_map.mp hd
    exact (h w hw).facts.2.1
  · have := depAll_le (ds := ws.map wantD) (n := 1) fun d hd => by
      obtain ⟨w, hw, rfl⟩ := List.mem_map.mp hd
      exact (h w hw).facts.2.2
    show depAll (ws.map wantD) + 1 ≤ 64
    omega
end Dear

namespace Dear
open PySem PySem.Spec PyProof.Rows L2
/-! ### what a display makes, of new objects alone -/
def New (H0 H : Hp) : Hp := fun b => if (H0 b).isSome then none else H b
theorem new_at {H0 H : Hp} {b : Addr} (h : H0 b = none) : New H0 H b = H b := by
  unfold New
  rw [h]
  rfl
theorem new_some {H0 H : Hp} {b : Addr} {o : HO} (h : New H0 H b = some o) : H0 b = none ∧ H b = some o := by
  unfold New at h
  cases e : H0 b with
  | none =>
    rw [e] at h
    exact ⟨rfl, h⟩
  | some u =>
    rw [e] at h
    cases h
theorem New.sub (H0 H : Hp) : Same (New H0 H) H := fun _ _ e => (new_some e).2
theorem New.mono {H0 H H' : Hp} (s : Same H H') : Same (New H0 H) (New H0 H') := fun b o e => by
  obtain ⟨h1, h2⟩ := new_some e
  rw [new_at h1]
  exact s _ _ h2
theorem New.but {H0 H H' : Hp} {l : Addr} {o : HO} (hl : H0 l = some o) (s : But l H H') : Same (New H0 H) (New H0 H') := fun b o e => by
  obtain ⟨h1, h2⟩ := new_some e
  rw [new_at h1]
  exact s _ _ h2 fun z => by
    rw [z, hl] at h1
    cases h1
theorem New.off {H0 H : Hp} {l : Addr} {o : HO} (hl : H0 l = some o) : Same (New H0 H) (Off l H) := fun b o e => by
  obtain ⟨h1, h2⟩ := new_some e
  rw [off_ne fun z => by
    rw [z, hl] at h1
    cases h1]
  exact h2
/-- one base heap in the other's place -/
theorem New.base {H0 H1 H : Hp} (s : Same H0 H1) : Same (New H1 H) (New H0 H) := fun b o e => by
  obtain ⟨h1, h2⟩ := new_some e
  rw [new_at]
  · exact h2
  · cases q : H0 b with
    | none => rfl
    | some u =>
      rw [s _ _ q] at h1
      cases h1
theorem same_none {H0 H1 : Hp} {p : Addr} (s : Same H0 H1) (h : H1 p = none) : H0 p = none := by
  cases q : H0 p with
  | none => rfl
  | some u =>
    rw [s _ _ q] at h
    cases h
def MkN (σ : L2.St) (t : TE) (H : Hp) (d : D) : Prop := ∀ H1, Same H H1 → ∀ Q : VK, (∀ v H2, Same H1 H2 → Dt (New H H2) v d → Q v H2) → t σ H1 Q
def MkNA (σ : L2.St) (t : TA) (H : Hp) (ds : List D) : Prop := ∀ H1, Same H H1 → ∀ Q : List V → Hp → Prop, (∀ vs H2, Same H1 H2 → DtAll (New H H2) vs ds → Q vs H2) → t σ H1 Q
section
variable {σ : L2.St} {H : Hp}
theorem mkn_c {v : V} {d : D} (h : ∀ H', Dt H' v d) : MkN σ (tC v) H d := fun H1 _ _ q => q v H1 (Same.refl _) (h _)
theorem mkn_var {i : Nat} {v : V} {d : D} (e : σ[i]? = some (some v)) (h : ∀ H', Dt H' v d) : MkN σ (tVar i) H d := fun H1 _ _ q => ⟨v, e, q v H1 (Same.refl _) (h _)⟩
/-- a number, reckoned -/
theorem mkn_i {t : TE} {i : Int} (h : ∀ (H1 : Hp) (Q : VK), Q (.int i) H1 → t σ H1 Q) : MkN σ t H (.int i) := fun H1 _ Q q => h H1 Q (q _ H1 (Same.refl _) (.int i))
theorem mkna_nil : MkNA σ tNil H [] := fun H1 _ _ q => q [] H1 (Same.refl _) .nil
theorem mkna_cons {t : TE} {u : TA} {d : D} {ds : List D} (h1 : MkN σ t H d) (h2 : MkNA σ u H ds) : MkNA σ (tCons t u) H (d :: ds) := fun H1 s Q q => by
  refine h1 H1 s _ fun v H2 s2 d2 => ?_
  refine h2 H2 (s.trans s2) _ fun vs H3 s3 d3 => ?_
  exact q (v :: vs) H3 (s2.trans s3) (.cons (d2.same (New.mono s3)) d3)
theorem mkn_tup {u : TA} {ds : List D} (h : MkNA σ u H ds) (hz : Nat.ble ds.length 1000 = true := by rfl) : MkN σ (tTup u) H (.tup ds) := fun H1 s Q q => by
  refine h H1 s _ fun vs H2 s2 d2 => ?_
  refine ⟨sz_lit (by rw [d2.length]; exact Nat.le_of_ble_eq_true hz), fun p hp => ?_⟩
  exact q (.ref p) _ (s2.trans (Same.upd hp)) (.tup (by rw [new_at (same_none (s.trans s2) hp)]; exact upd_same) (d2.same (New.mono (Same.upd hp))))
theorem mkn_lst {u : TA} {ds : List D} (h : MkNA σ u H ds) (hz : Nat.ble ds.length 1000 = true := by rfl) : MkN σ (tLst u) H (.lst ds) := fun H1 s Q q => by
  refine h H1 s _ fun vs H2 s2 d2 => ?_
  refine ⟨sz_lit (by rw [d2.length]; exact Nat.le_of_ble_eq_true hz), fun p hp => ?_⟩
  exact q (.ref p) _ (s2.trans (Same.upd hp)) (.lst (by rw [new_at (same_none (s.trans s2) hp)]; exact upd_same) (d2.same (New.mono (Same.upd hp))))
theorem mkn_dnew : MkN σ tDNewK H .dct := fun H1 s Q q p hp => q (.ref p) _ (Same.upd hp) (.dct (by rw [new_at (same_none s hp)]; exact upd_same))
theorem mkn_neg {i : Int} : MkN σ (tUn (rU fun i => .int (-i)) (tC (.int i))) H (.int (-i)) := fun H1 _ _ q => ⟨i, rfl, q _ H1 (Same.refl _) (.int _)⟩
theorem MkN.go {t : TE} {d : D} (h : MkN σ t H d) {Q : VK} (q : ∀ v H2, Same H H2 → Dt (New H H2) v d → Q v H2) : t σ H Q := h H (Same.refl H) Q q
theorem MkNA.go {t : TA} {ds : List D} (h : MkNA σ t H ds) {Q : List V → Hp → Prop} (q : ∀ vs H2, Same H H2 → DtAll (New H H2) vs ds → Q vs H2) : t σ H Q := h H (Same.refl H) Q q
end
section
variable {σ : L2.St} {H : Hp}
theorem s_tup {u : TA} {Q : VK} (h : u σ H fun vs H' => vs.length ≤ sizeLine ∧ ∀ p, H' p = none → Q (.ref p) (upd H' p (.tup vs))) : tTup u σ H Q := h
theorem s_lst {u : TA} {Q : VK} (h : u σ H fun vs H' => vs.length ≤ sizeLine ∧ ∀ p, H' p = none → Q (.ref p) (upd H' p (.lst vs))) : tLst u σ H Q := h
theorem s_cons {t : TE} {u : TA} {Q : List V → Hp → Prop} (h : t σ H fun v H1 => u σ H1 fun vs H2 => Q (v :: vs) H2) : tCons t u σ H Q := h
end
/-! data that avoid l and avoid q avoid both -/
mutual
theorem Dt.off2 {H : Hp} {l q : Addr} : ∀ {v : V} {d : D}, Dt (Off l H) v d → Dt (Off q H) v d → Dt (Off q (Off l H)) v d
  | _, _, .non, _ => .non
  | _, _, .bl b, _ => .bl b
  | _, _, .int i, _ => .int i
  | _, _, .str z, _ => .str z
  | _, _, .lst h1 a1, .lst h2 a2 => by
    obtain ⟨n1, e1⟩ := off_some h1
    obtain ⟨n2, e2⟩ := off_some h2
    rw [e1] at e2
    cases e2
    exact .lst (by rw [off_ne n2, off_ne n1]; exact e1) (DtAll.off2 a1 a2)
  | _, _, .tup h1 a1, .tup h2 a2 => by
    obtain ⟨n1, e1⟩ := off_some h1
    obtain ⟨n2, e2⟩ := off_some h2
    rw [e1] at e2
    cases e2
    exact .tup (by rw [off_ne n2, off_ne n1]; exact e1) (DtAll.off2 a1 a2)
  | _, _, .dct h1, .dct h2 => by
    obtain ⟨n1, e1⟩ := off_some h1
    obtain ⟨n2, e2⟩ := off_some h2
    exact .dct (by rw [off_ne n2, off_ne n1]; exact e1)
theorem DtAll.off2 {H : Hp} {l q : Addr} : ∀ {vs : List V} {ds : List D}, DtAll (Off l H) vs ds → DtAll (Off q H) vs ds → DtAll (Off q (Off l H)) vs ds
  | _, _, .nil, _ => .nil
  | _, _, .cons a b, .cons c d => .cons (Dt.off2 a c) (DtAll.off2 b d)
end
theorem TP.off {H : Hp} {l : Addr} {xs : List V} (h : H l = some (.lst xs)) : TP H (Off l H) := fun b ys e => by
  rw [off_ne (ne_of e h (by intro z; cases z))]
  exact e
theorem lt300 {n : Nat} (h : n < 2 ^ 200) : n < 2 ^ 300 := Nat.lt_of_lt_of_le h (Nat.pow_le_pow_right (by decide) (by decide))
theorem cutV_pre (l : List V) (j : Nat) : cutV l none (some (j : Int)) = l.take j := by
  unfold cutV
  rw [HT.sIx_none, HT.sIx_nat, List.drop_zero, Nat.sub_zero]
  by_cases h : j ≤ l.length
  · rw [Nat.min_eq_left h]
  · rw [Nat.min_eq_right (by omega), List.take_length, List.take_of_length_le (by omega)]
theorem cutV_from (l : List V) (j : Nat) : cutV l (some (j : Int)) none = l.drop j := by
  unfold cutV
  rw [HT.sIx_none, HT.sIx_nat]
  by_cases h : j ≤ l.length
  · rw [Nat.min_eq_left h, List.take_of_length_le (by rw [List.length_drop]; exact Nat.le_refl _)]
  · rw [Nat.min_eq_right (by omega), List.drop_length, List.drop_of_length_le (by omega), List.take_nil]
theorem DtAll.drop {H : Hp} : ∀ {vs : List V} {ds : List D} (n : Nat), DtAll H vs ds → DtAll H (vs.drop n) (ds.drop n)
  | _, _, 0, h => h
  | _, _, _ + 1, .nil => .nil
  | _, _, n + 1, .cons _ b => DtAll.drop n b
theorem DtAll.set {H : Hp} {v : V} {d : D} (h : Dt H v d) : ∀ {vs : List V} {ds : List D} (n : Nat), DtAll H vs ds → DtAll H (vs.set n v) (ds.set n d)
  | _, _, _, .nil => .nil
  | _, _, 0, .cons _ b => .cons h b
  | _, _, n + 1, .cons a b => .cons a (DtAll.set h n b)
theorem OkAll.take : ∀ {ds : List D} (n : Nat), OkAll ds → OkAll (ds.take n)
  | _, 0, _ => trivial
  | [], _ + 1, _ => trivial
  | _ :: _, n + 1, h => ⟨h.1, OkAll.take n h.2⟩
theorem OkAll.drop : ∀ {ds : List D} (n : Nat), OkAll ds → OkAll (ds.drop n)
  | _, 0, h => h
  | [], _ + 1, _ => trivial
  | _ :: _, n + 1, h => OkAll.drop n h.2
theorem OkAll.set {d : D} (h : Ok d) : ∀ {ds : List D} (n : Nat), OkAll ds → OkAll (ds.set n d)
  | [], _, _ => trivial
  | _ :: _, 0, g => ⟨h, g.2⟩
  | _ :: _, n + 1, g => ⟨g.1, OkAll.set h n g.2⟩
end Dear

namespace Dear
open PySem PySem.Spec PyProof.Rows L2
def top (i : Nat) : Stmt := PySem.Challenge.pw_dearsigns_k10_wants_and_none.main.body.getD i (.Pass ⟨0, 0, 0, 0⟩)
abbrev s_NoTongue___init__ : Stmt := inClass (top 11) 0
abbrev s_NoWants___init__ : Stmt := inClass (top 12) 0
abbrev s_NoThing___init__ : Stmt := inClass (top 13) 0
abbrev s_BadSign___init__ : Stmt := inClass (top 14) 0
abbrev s_NoText___init__ : Stmt := inClass (top 15) 0
abbrev s_is_whole : Stmt := top 19
abbrev s_is_name : Stmt := top 20
abbrev s_is_want : Stmt := top 24
abbrev s_look_at_wants : Stmt := top 25
abbrev s__law_pool : Stmt := top 27
abbrev s__law_take : Stmt := top 28
abbrev s__law_name : Stmt := top 29
abbrev s__law_wants : Stmt := top 30
abbrev s__law_odd : Stmt := top 31
abbrev s__law_spoiled : Stmt := top 32
abbrev s__law_is_name : Stmt := top 33
abbrev s__law_due : Stmt := top 34
abbrev s__law_told : Stmt := top 35
abbrev s_law : Stmt := top 36
abbrev n_NoTongue___init__ : List Str := ["self", "part"]
theorem c_NoTongue___init__ : FnScope n_NoTongue___init__ ["self", "part"] (defScope s_NoTongue___init__) := ⟨rfl, rfl, rfl, by decide +kernel, rfl, by decide +kernel, by decide +kernel⟩
abbrev n_NoWants___init__ : List Str := ["self", "number"]
theorem c_NoWants___init__ : FnScope n_NoWants___init__ ["self", "number"] (defScope s_NoWants___init__) := ⟨rfl, rfl, rfl, by decide +kernel, rfl, by decide +kernel, by decide +kernel⟩
abbrev n_NoThing___init__ : List Str := ["self", "place"]
theorem c_NoThing___init__ : FnScope n_NoThing___init__ ["self", "place"] (defScope s_NoThing___init__) := ⟨rfl, rfl, rfl, by decide +kernel, rfl, by decide +kernel, by decide +kernel⟩
abbrev n_BadSign___init__ : List Str := ["self", "place"]
theorem c_BadSign___init__ : FnScope n_BadSign___init__ ["self", "place"] (defScope s_BadSign___init__) := ⟨rfl, rfl, rfl, by decide +kernel, rfl, by decide +kernel, by decide +kernel⟩
abbrev n_NoText___init__ : List Str := ["self", "row"]
theorem c_NoText___init__ : FnScope n_NoText___init__ ["self", "row"] (defScope s_NoText___init__) := ⟨rfl, rfl, rfl, by decide +kernel, rfl, by decide +kernel, by decide +kernel⟩
abbrev n_is_whole : List Str := ["thing"]
theorem c_is_whole : FnScope n_is_whole ["thing"] (defScope s_is_whole) := ⟨rfl, rfl, rfl, by decide +kernel, rfl, by decide +kernel, by decide +kernel⟩
abbrev n_is_name : List Str := ["thing", "sign"]
theorem c_is_name : FnScope n_is_name ["thing"] (defScope s_is_name) := ⟨rfl, rfl, rfl, by decide +kernel, rfl, by decide +kernel, by decide +kernel⟩
abbrev n_is_want : List Str := ["thing"]
theorem c_is_want : FnScope n_is_want ["thing"] (defScope s_is_want) := ⟨rfl, rfl, rfl, by decide +kernel, rfl, by decide +kernel, by decide +kernel⟩
abbrev n_look_at_wants : List Str := ["thing", "names", "number", "want"]
theorem c_look_at_wants : FnScope n_look_at_wants ["thing"] (defScope s_look_at_wants) := ⟨rfl, rfl, rfl, by decide +kernel, rfl, by decide +kernel, by decide +kernel⟩
abbrev n__law_pool : List Str := ["_law_script", "_law_k", "_law_cell", "_law_seed"]
theorem c__law_pool : FnScope n__law_pool ["_law_script", "_law_k"] (defScope s__law_pool) := ⟨rfl, rfl, rfl, by decide +kernel, rfl, by decide +kernel, by decide +kernel⟩
abbrev n__law_take : List Str := ["_law_pool_here", "_law_many", "_law_found"]
theorem c__law_take : FnScope n__law_take ["_law_pool_here", "_law_many"] (defScope s__law_take) := ⟨rfl, rfl, rfl, by decide +kernel, rfl, by decide +kernel, by decide +kernel⟩
abbrev n__law_name : List Str := ["_law_k", "_law_salt", "_law_letters", "_law_at", "_law_tell", "_law_more"]
theorem c__law_name : FnScope n__law_name ["_law_k", "_law_salt"] (defScope s__law_name) := ⟨rfl, rfl, rfl, by decide +kernel, rfl, by decide +kernel, by decide +kernel⟩
abbrev n__law_wants : List Str := ["_law_pool_here", "_law_many", "_law_salt", "_law_wants_here", "_law_k", "_law_way", "_law_count"]
theorem c__law_wants : FnScope n__law_wants ["_law_pool_here", "_law_many"] (defScope s__law_wants) := ⟨rfl, rfl, rfl, by decide +kernel, rfl, by decide +kernel, by decide +kernel⟩
abbrev n__law_odd : List Str := ["_law_pool_here", "_law_name_here", "_law_count", "_law_which", "_law_way", "_law_some"]
theorem c__law_odd : FnScope n__law_odd ["_law_pool_here", "_law_name_here", "_law_count"] (defScope s__law_odd) := ⟨rfl, rfl, rfl, by decide +kernel, rfl, by decide +kernel, by decide +kernel⟩
abbrev n__law_spoiled : List Str := ["_law_pool_here", "_law_wants_here", "_law_way", "_law_some", "_law_found", "_law_turn", "_law_at", "_law_name_here", "_law_count", "_law_k"]
theorem c__law_spoiled : FnScope n__law_spoiled ["_law_pool_here", "_law_wants_here"] (defScope s__law_spoiled) := ⟨rfl, rfl, rfl, by decide +kernel, rfl, by decide +kernel, by decide +kernel⟩
abbrev n__law_is_name : List Str := ["_law_thing", "_law_sign"]
theorem c__law_is_name : FnScope n__law_is_name ["_law_thing"] (defScope s__law_is_name) := ⟨rfl, rfl, rfl, by decide +kernel, rfl, by decide +kernel, by decide +kernel⟩
abbrev n__law_due : List Str := ["_law_things", "_law_seen", "_law_k", "_law_thing"]
theorem c__law_due : FnScope n__law_due ["_law_things"] (defScope s__law_due) := ⟨rfl, rfl, rfl, by decide +kernel, rfl, by decide +kernel, by decide +kernel⟩
abbrev n__law_told : List Str := ["_law_things", "_law_error", "e"]
theorem c__law_told : FnScope n__law_told ["_law_things"] (defScope s__law_told) := ⟨rfl, rfl, rfl, by decide +kernel, rfl, by decide +kernel, by decide +kernel⟩
abbrev n_law : List Str := ["_law_script", "_law_k", "_law_pool_here", "_law_wants_here", "_law_kept", "_law_spoiled_here"]
theorem c_law : FnScope n_law ["_law_script"] (defScope s_law) := ⟨rfl, rfl, rfl, by decide +kernel, rfl, by decide +kernel, by decide +kernel⟩
structure Ads where
  DearError : Addr
  NoNumber : Addr
  NoBook : Addr
  NoTree : Addr
  TooMany : Addr
  NoCount : Addr
  NoUndo : Addr
  NoTurn : Addr
  NoRow : Addr
  Unknown : Addr
  NoTongue : Addr
  NoWants : Addr
  NoThing : Addr
  BadSign : Addr
  NoText : Addr
/-- what the top has left -/
structure Txt (K : PySem.W.Frag) (mg : Str → Option Value) where
  A : Ads
  C_DearError : mg "DearError" = some (.ref A.DearError)
  C_NoNumber : mg "NoNumber" = some (.ref A.NoNumber)
  C_NoBook : mg "NoBook" = some (.ref A.NoBook)
  C_NoTree : mg "NoTree" = some (.ref A.NoTree)
  C_TooMany : mg "TooMany" = some (.ref A.TooMany)
  C_NoCount : mg "NoCount" = some (.ref A.NoCount)
  C_NoUndo : mg "NoUndo" = some (.ref A.NoUndo)
  C_NoTurn : mg "NoTurn" = some (.ref A.NoTurn)
  C_NoRow : mg "NoRow" = some (.ref A.NoRow)
  C_Unknown : mg "Unknown" = some (.ref A.Unknown)
  C_NoTongue : mg "NoTongue" = some (.ref A.NoTongue)
  C_NoWants : mg "NoWants" = some (.ref A.NoWants)
  C_NoThing : mg "NoThing" = some (.ref A.NoThing)
  C_BadSign : mg "BadSign" = some (.ref A.BadSign)
  C_NoText : mg "NoText" = some (.ref A.NoText)
  D_DearError : DrI K mg "DearError" A.DearError
  X_NoWants : ExInit K mg "NoWants" "number" A.NoWants
  F_NoWants : DfI K A.NoWants "NoWants.__init__" s_NoWants___init__ "number"
  q_NoWants_DearError : PySem.W.kitOne K (.ref A.NoWants) (.ref A.DearError) = some true
  q_NoWants_NoNumber : PySem.W.kitOne K (.ref A.NoWants) (.ref A.NoNumber) = some false
  q_NoWants_NoBook : PySem.W.kitOne K (.ref A.NoWants) (.ref A.NoBook) = some false
  q_NoWants_NoTree : PySem.W.kitOne K (.ref A.NoWants) (.ref A.NoTree) = some false
  q_NoWants_TooMany : PySem.W.kitOne K (.ref A.NoWants) (.ref A.TooMany) = some false
  q_NoWants_NoCount : PySem.W.kitOne K (.ref A.NoWants) (.ref A.NoCount) = some false
  q_NoWants_NoUndo : PySem.W.kitOne K (.ref A.NoWants) (.ref A.NoUndo) = some false
  q_NoWants_NoTurn : PySem.W.kitOne K (.ref A.NoWants) (.ref A.NoTurn) = some false
  q_NoWants_NoRow : PySem.W.kitOne K (.ref A.NoWants) (.ref A.NoRow) = some false
  q_NoWants_Unknown : PySem.W.kitOne K (.ref A.NoWants) (.ref A.Unknown) = some false
  q_NoWants_NoTongue : PySem.W.kitOne K (.ref A.NoWants) (.ref A.NoTongue) = some false
  q_NoWants_NoWants : PySem.W.kitOne K (.ref A.NoWants) (.ref A.NoWants) = some true
  q_NoWants_NoThing : PySem.W.kitOne K (.ref A.NoWants) (.ref A.NoThing) = some false
  q_NoWants_BadSign : PySem.W.kitOne K (.ref A.NoWants) (.ref A.BadSign) = some false
  q_NoWants_NoText : PySem.W.kitOne K (.ref A.NoWants) (.ref A.NoText) = some false
  q_NoWants_ValueError : PySem.W.kitOne K (.ref A.NoWants) (.type "ValueError") = some true
  m_NoWants : PySem.W.exmOne K (.ref A.NoWants) (.ref A.DearError) = some true
  f_is_whole : Df K mg "is_whole" s_is_whole ["thing"]
  f_is_name : Df K mg "is_name" s_is_name ["thing"]
  f_is_want : Df K mg "is_want" s_is_want ["thing"]
  f_look_at_wants : Df K mg "look_at_wants" s_look_at_wants ["thing"]
  f__law_pool : Df K mg "_law_pool" s__law_pool ["_law_script", "_law_k"]
  f__law_take : Df K mg "_law_take" s__law_take ["_law_pool_here", "_law_many"]
  f__law_name : Df K mg "_law_name" s__law_name ["_law_k", "_law_salt"]
  f__law_wants : Df K mg "_law_wants" s__law_wants ["_law_pool_here", "_law_many"]
  f__law_odd : Df K mg "_law_odd" s__law_odd ["_law_pool_here", "_law_name_here", "_law_count"]
  f__law_spoiled : Df K mg "_law_spoiled" s__law_spoiled ["_law_pool_here", "_law_wants_here"]
  f__law_is_name : Df K mg "_law_is_name" s__law_is_name ["_law_thing"]
  f__law_due : Df K mg "_law_due" s__law_due ["_law_things"]
  f__law_told : Df K mg "_law_told" s__law_told ["_law_things"]
  f_law : Df K mg "law" s_law ["_law_script"]
  g_LETTERS : ∃ t, mg "LETTERS" = some (.str "abcdefghijklmnopqrstuvwxyz" t)
  g_LONGEST : ∃ t, mg "LONGEST" = some (.int 8 t)
  g_MOST_THINGS : ∃ t, mg "MOST_THINGS" = some (.int 20 t)
  g_GREATEST_COUNT : ∃ t, mg "GREATEST_COUNT" = some (.int 1000000000 t)
  b_ValueError : mg "ValueError" = none
  b_all : mg "all" = none
  b_bool : mg "bool" = none
  b_dict : mg "dict" = none
  b_enumerate : mg "enumerate" = none
  b_int : mg "int" = none
  b_isinstance : mg "isinstance" = none
  b_len : mg "len" = none
  b_list : mg "list" = none
  b_max : mg "max" = none
  b_min : mg "min" = none
  b_range : mg "range" = none
  b_str : mg "str" = none
  b_tuple : mg "tuple" = none
def txt_mk {K : PySem.W.Frag} {h : Heap} {mg : Str → Option Value} (X : K.In h) (G : h.Ns mainGlobals mg)
    {C_DearError : Addr} {C_NoNumber : Addr} {C_NoBook : Addr} {C_NoTree : Addr} {C_TooMany : Addr} {C_NoCount : Addr} {C_NoUndo : Addr} {C_NoTurn : Addr} {C_NoRow : Addr} {C_Unknown : Addr} {C_NoTongue : Addr} {C_NoWants : Addr} {C_NoThing : Addr} {C_BadSign : Addr} {C_NoText : Addr} 
    {nm_NoWants qn_NoWants : Str} {N_NoWants I_NoWants : Addr} {bs_NoWants sb_NoWants : List Value} {sn_NoWants : List Str} {ab_NoWants : Bool} {col_NoWants : Option Bool} {dd_NoWants odI_NoWants anI_NoWants : Option Addr} {m0_NoWants m1_NoWants m2_NoWants m3_NoWants m5_NoWants : Option Value} {slI_NoWants : Array (Option Value)} {ocI_NoWants kVI_NoWants dcI_NoWants pmI_NoWants cdI_NoWants ctI_NoWants : Value}
    {f1 : Addr} {od1 an1 : Option Addr} {sl1 : Array (Option Value)} {oc1 kV1 dc1 pm1 cd1 ct1 : Value}
    {f2 : Addr} {od2 an2 : Option Addr} {sl2 : Array (Option Value)} {oc2 kV2 dc2 pm2 cd2 ct2 : Value}
    {f3 : Addr} {od3 an3 : Option Addr} {sl3 : Array (Option Value)} {oc3 kV3 dc3 pm3 cd3 ct3 : Value}
    {f4 : Addr} {od4 an4 : Option Addr} {sl4 : Array (Option Value)} {oc4 kV4 dc4 pm4 cd4 ct4 : Value}
    {f5 : Addr} {od5 an5 : Option Addr} {sl5 : Array (Option Value)} {oc5 kV5 dc5 pm5 cd5 ct5 : Value}
    {f6 : Addr} {od6 an6 : Option Addr} {sl6 : Array (Option Value)} {oc6 kV6 dc6 pm6 cd6 ct6 : Value}
    {f7 : Addr} {od7 an7 : Option Addr} {sl7 : Array (Option Value)} {oc7 kV7 dc7 pm7 cd7 ct7 : Value}
    {f8 : Addr} {od8 an8 : Option Addr} {sl8 : Array (Option Value)} {oc8 kV8 dc8 pm8 cd8 ct8 : Value}
    {f9 : Addr} {od9 an9 : Option Addr} {sl9 : Array (Option Value)} {oc9 kV9 dc9 pm9 cd9 ct9 : Value}
    {f10 : Addr} {od10 an10 : Option Addr} {sl10 : Array (Option Value)} {oc10 kV10 dc10 pm10 cd10 ct10 : Value}
    {f11 : Addr} {od11 an11 : Option Addr} {sl11 : Array (Option Value)} {oc11 kV11 dc11 pm11 cd11 ct11 : Value}
    {f12 : Addr} {od12 an12 : Option Addr} {sl12 : Array (Option Value)} {oc12 kV12 dc12 pm12 cd12 ct12 : Value}
    {f13 : Addr} {od13 an13 : Option Addr} {sl13 : Array (Option Value)} {oc13 kV13 dc13 pm13 cd13 ct13 : Value}
    {f14 : Addr} {od14 an14 : Option Addr} {sl14 : Array (Option Value)} {oc14 kV14 dc14 pm14 cd14 ct14 : Value}
    {t15 : Tok}
    {t16 : Tok}
    {t17 : Tok}
    {t18 : Tok}
    (g_DearError : PySem.W.nsIn K mainGlobals "DearError" = some (some (.ref C_DearError)))
    (i_DearError : PySem.W.isClsIn K C_DearError = true) (t_DearError : PySem.W.typeIn K (.ref C_DearError) = some (.type "type"))
    (g_NoNumber : PySem.W.nsIn K mainGlobals "NoNumber" = some (some (.ref C_NoNumber)))
    (i_NoNumber : PySem.W.isClsIn K C_NoNumber = true) (t_NoNumber : PySem.W.typeIn K (.ref C_NoNumber) = some (.type "type"))
    (g_NoBook : PySem.W.nsIn K mainGlobals "NoBook" = some (some (.ref C_NoBook)))
    (i_NoBook : PySem.W.isClsIn K C_NoBook = true) (t_NoBook : PySem.W.typeIn K (.ref C_NoBook) = some (.type "type"))
    (g_NoTree : PySem.W.nsIn K mainGlobals "NoTree" = some (some (.ref C_NoTree)))
    (i_NoTree : PySem.W.isClsIn K C_NoTree = true) (t_NoTree : PySem.W.typeIn K (.ref C_NoTree) = some (.type "type"))
    (g_TooMany : PySem.W.nsIn K mainGlobals "TooMany" = some (some (.ref C_TooMany)))
    (i_TooMany : PySem.W.isClsIn K C_TooMany = true) (t_TooMany : PySem.W.typeIn K (.ref C_TooMany) = some (.type "type"))
    (g_NoCount : PySem.W.nsIn K mainGlobals "NoCount" = some (some (.ref C_NoCount)))
    (i_NoCount : PySem.W.isClsIn K C_NoCount = true) (t_NoCount : PySem.W.typeIn K (.ref C_NoCount) = some (.type "type"))
    (g_NoUndo : PySem.W.nsIn K mainGlobals "NoUndo" = some (some (.ref C_NoUndo)))
    (i_NoUndo : PySem.W.isClsIn K C_NoUndo = true) (t_NoUndo : PySem.W.typeIn K (.ref C_NoUndo) = some (.type "type"))
    (g_NoTurn : PySem.W.nsIn K mainGlobals "NoTurn" = some (some (.ref C_NoTurn)))
    (i_NoTurn : PySem.W.isClsIn K C_NoTurn = true) (t_NoTurn : PySem.W.typeIn K (.ref C_NoTurn) = some (.type "type"))
    (g_NoRow : PySem.W.nsIn K mainGlobals "NoRow" = some (some (.ref C_NoRow)))
    (i_NoRow : PySem.W.isClsIn K C_NoRow = true) (t_NoRow : PySem.W.typeIn K (.ref C_NoRow) = some (.type "type"))
    (g_Unknown : PySem.W.nsIn K mainGlobals "Unknown" = some (some (.ref C_Unknown)))
    (i_Unknown : PySem.W.isClsIn K C_Unknown = true) (t_Unknown : PySem.W.typeIn K (.ref C_Unknown) = some (.type "type"))
    (g_NoTongue : PySem.W.nsIn K mainGlobals "NoTongue" = some (some (.ref C_NoTongue)))
    (i_NoTongue : PySem.W.isClsIn K C_NoTongue = true) (t_NoTongue : PySem.W.typeIn K (.ref C_NoTongue) = some (.type "type"))
    (g_NoWants : PySem.W.nsIn K mainGlobals "NoWants" = some (some (.ref C_NoWants)))
    (i_NoWants : PySem.W.isClsIn K C_NoWants = true) (t_NoWants : PySem.W.typeIn K (.ref C_NoWants) = some (.type "type"))
    (g_NoThing : PySem.W.nsIn K mainGlobals "NoThing" = some (some (.ref C_NoThing)))
    (i_NoThing : PySem.W.isClsIn K C_NoThing = true) (t_NoThing : PySem.W.typeIn K (.ref C_NoThing) = some (.type "type"))
    (g_BadSign : PySem.W.nsIn K mainGlobals "BadSign" = some (some (.ref C_BadSign)))
    (i_BadSign : PySem.W.isClsIn K C_BadSign = true) (t_BadSign : PySem.W.typeIn K (.ref C_BadSign) = some (.type "type"))
    (g_NoText : PySem.W.nsIn K mainGlobals "NoText" = some (some (.ref C_NoText)))
    (i_NoText : PySem.W.isClsIn K C_NoText = true) (t_NoText : PySem.W.typeIn K (.ref C_NoText) = some (.type "type"))
    (b_DearError : PySem.W.subIn K (.ref C_DearError) (.type "BaseException") = some true)
    (d1 : PySem.W.specialIn K (.ref C_DearError) "__getattribute__" = some (some (.builtin "type.__getattribute__")))
    (d2 : PySem.W.readsIn K C_DearError (.type "type") = true)
    (d3 : PySem.W.findCls K (.ref C_DearError) (.type "type") "__init__" = some (.val (.builtin "ValueError.__init__")))
    (xl_NoWants : K.lookup C_NoWants = some (excClassObj nm_NoWants qn_NoWants C_NoWants N_NoWants bs_NoWants [.ref C_DearError, .type "ValueError", .type "Exception", .type "BaseException", .type "object"] true sn_NoWants sb_NoWants ab_NoWants col_NoWants dd_NoWants m0_NoWants m1_NoWants m2_NoWants m3_NoWants m5_NoWants "ValueError.__new__"))
    (sa_NoWants : PySem.W.findIn K (.ref C_NoWants) "__setattr__" = some (some (.builtin "object.__setattr__")))
    (x2_NoWants : PySem.W.keepIn K (.ref C_NoWants) = true)
    (x3_NoWants : PySem.W.subIn K (.ref C_NoWants) (.type "BaseException") = some true)
    (x4_NoWants : PySem.W.typeIn K (.ref C_NoWants) = some (.type "type"))
    (x5_NoWants : PySem.W.findIn K (.ref C_NoWants) "__getattribute__" = some (some (.builtin "BaseException.__getattribute__")))
    (x6_NoWants : PySem.W.findIn K (.ref C_NoWants) "__getattr__" = some none)
    (x7_NoWants : PySem.W.hasDictIn K C_NoWants = true)
    (x8_NoWants : PySem.W.findIn K (.ref C_NoWants) "__class__" = some (some (.builtin "object.__class__")))
    (x9_NoWants : PySem.W.specialIn K (.builtin "object.__class__") "__get__" = some (some (.builtin "getset_descriptor.__get__")))
    (x10_NoWants : PySem.W.takesIn K (.builtin "object.__class__") = some true)
    (x11_NoWants : PySem.W.mroIn K C_NoWants (.type "object") = some true)
    (fn_NoWants : PySem.W.findIn K (.ref C_NoWants) "number" = some none)
    (i1_NoWants : PySem.W.findIn K (.ref C_NoWants) "__init__" = some (some (.ref I_NoWants)))
    (i2_NoWants : PySem.W.typeIn K (.ref I_NoWants) = some (.type "function"))
    (i3_NoWants : K.lookup I_NoWants = some ⟨ocI_NoWants, odI_NoWants, .func (PySem.W.fnOf "__init__" "NoWants.__init__" (defArgs s_NoWants___init__) (defBody s_NoWants___init__) (defScope s_NoWants___init__) .none kVI_NoWants dcI_NoWants pmI_NoWants anI_NoWants cdI_NoWants ctI_NoWants), slI_NoWants⟩)
    (i4_NoWants : PySem.W.codeIn K cdI_NoWants "NoWants.__init__" = true)
    (i5_NoWants : PySem.W.keepIn K (.ref I_NoWants) = true)
    (q_NoWants_DearError : PySem.W.subIn K (.ref C_NoWants) (.ref C_DearError) = some true)
    (n_NoWants_DearError : (Value.ref C_NoWants == Value.ref C_DearError) = false)
    (q_NoWants_NoNumber : PySem.W.subIn K (.ref C_NoWants) (.ref C_NoNumber) = some false)
    (n_NoWants_NoNumber : (Value.ref C_NoWants == Value.ref C_NoNumber) = false)
    (q_NoWants_NoBook : PySem.W.subIn K (.ref C_NoWants) (.ref C_NoBook) = some false)
    (n_NoWants_NoBook : (Value.ref C_NoWants == Value.ref C_NoBook) = false)
    (q_NoWants_NoTree : PySem.W.subIn K (.ref C_NoWants) (.ref C_NoTree) = some false)
    (n_NoWants_NoTree : (Value.ref C_NoWants == Value.ref C_NoTree) = false)
    (q_NoWants_TooMany : PySem.W.subIn K (.ref C_NoWants) (.ref C_TooMany) = some false)
    (n_NoWants_TooMany : (Value.ref C_NoWants == Value.ref C_TooMany) = false)
    (q_NoWants_NoCount : PySem.W.subIn K (.ref C_NoWants) (.ref C_NoCount) = some false)
    (n_NoWants_NoCount : (Value.ref C_NoWants == Value.ref C_NoCount) = false)
    (q_NoWants_NoUndo : PySem.W.subIn K (.ref C_NoWants) (.ref C_NoUndo) = some false)
    (n_NoWants_NoUndo : (Value.ref C_NoWants == Value.ref C_NoUndo) = false)
    (q_NoWants_NoTurn : PySem.W.subIn K (.ref C_NoWants) (.ref C_NoTurn) = some false)
    (n_NoWants_NoTurn : (Value.ref C_NoWants == Value.ref C_NoTurn) = false)
    (q_NoWants_NoRow : PySem.W.subIn K (.ref C_NoWants) (.ref C_NoRow) = some false)
    (n_NoWants_NoRow : (Value.ref C_NoWants == Value.ref C_NoRow) = false)
    (q_NoWants_Unknown : PySem.W.subIn K (.ref C_NoWants) (.ref C_Unknown) = some false)
    (n_NoWants_Unknown : (Value.ref C_NoWants == Value.ref C_Unknown) = false)
    (q_NoWants_NoTongue : PySem.W.subIn K (.ref C_NoWants) (.ref C_NoTongue) = some false)
    (n_NoWants_NoTongue : (Value.ref C_NoWants == Value.ref C_NoTongue) = false)
    (q_NoWants_NoWants : PySem.W.subIn K (.ref C_NoWants) (.ref C_NoWants) = some true)
    (q_NoWants_NoThing : PySem.W.subIn K (.ref C_NoWants) (.ref C_NoThing) = some false)
    (n_NoWants_NoThing : (Value.ref C_NoWants == Value.ref C_NoThing) = false)
    (q_NoWants_BadSign : PySem.W.subIn K (.ref C_NoWants) (.ref C_BadSign) = some false)
    (n_NoWants_BadSign : (Value.ref C_NoWants == Value.ref C_BadSign) = false)
    (q_NoWants_NoText : PySem.W.subIn K (.ref C_NoWants) (.ref C_NoText) = some false)
    (n_NoWants_NoText : (Value.ref C_NoWants == Value.ref C_NoText) = false)
    (q_NoWants_ValueError : PySem.W.subIn K (.ref C_NoWants) (.type "ValueError") = some true)
    (a1 : PySem.W.nsIn K mainGlobals "is_whole" = some (some (.ref f1))) (l1 : K.lookup f1 = some ⟨oc1, od1, .func (PySem.W.fnOf "is_whole" "is_whole" (defArgs s_is_whole) (defBody s_is_whole) (defScope s_is_whole) .none kV1 dc1 pm1 an1 cd1 ct1), sl1⟩) (c1 : PySem.W.codeIn K cd1 "is_whole" = true) (k1 : PySem.W.keepIn K (.ref f1) = true)
    (a2 : PySem.W.nsIn K mainGlobals "is_name" = some (some (.ref f2))) (l2 : K.lookup f2 = some ⟨oc2, od2, .func (PySem.W.fnOf "is_name" "is_name" (defArgs s_is_name) (defBody s_is_name) (defScope s_is_name) .none kV2 dc2 pm2 an2 cd2 ct2), sl2⟩) (c2 : PySem.W.codeIn K cd2 "is_name" = true) (k2 : PySem.W.keepIn K (.ref f2) = true)
    (a3 : PySem.W.nsIn K mainGlobals "is_want" = some (some (.ref f3))) (l3 : K.lookup f3 = some ⟨oc3, od3, .func (PySem.W.fnOf "is_want" "is_want" (defArgs s_is_want) (defBody s_is_want) (defScope s_is_want) .none kV3 dc3 pm3 an3 cd3 ct3), sl3⟩) (c3 : PySem.W.codeIn K cd3 "is_want" = true) (k3 : PySem.W.keepIn K (.ref f3) = true)
    (a4 : PySem.W.nsIn K mainGlobals "look_at_wants" = some (some (.ref f4))) (l4 : K.lookup f4 = some ⟨oc4, od4, .func (PySem.W.fnOf "look_at_wants" "look_at_wants" (defArgs s_look_at_wants) (defBody s_look_at_wants) (defScope s_look_at_wants) .none kV4 dc4 pm4 an4 cd4 ct4), sl4⟩) (c4 : PySem.W.codeIn K cd4 "look_at_wants" = true) (k4 : PySem.W.keepIn K (.ref f4) = true)
    (a5 : PySem.W.nsIn K mainGlobals "_law_pool" = some (some (.ref f5))) (l5 : K.lookup f5 = some ⟨oc5, od5, .func (PySem.W.fnOf "_law_pool" "_law_pool" (defArgs s__law_pool) (defBody s__law_pool) (defScope s__law_pool) .none kV5 dc5 pm5 an5 cd5 ct5), sl5⟩) (c5 : PySem.W.codeIn K cd5 "_law_pool" = true) (k5 : PySem.W.keepIn K (.ref f5) = true)
    (a6 : PySem.W.nsIn K mainGlobals "_law_take" = some (some (.ref f6))) (l6 : K.lookup f6 = some ⟨oc6, od6, .func (PySem.W.fnOf "_law_take" "_law_take" (defArgs s__law_take) (defBody s__law_take) (defScope s__law_take) .none kV6 dc6 pm6 an6 cd6 ct6), sl6⟩) (c6 : PySem.W.codeIn K cd6 "_law_take" = true) (k6 : PySem.W.keepIn K (.ref f6) = true)
    (a7 : PySem.W.nsIn K mainGlobals "_law_name" = some (some (.ref f7))) (l7 : K.lookup f7 = some ⟨oc7, od7, .func (PySem.W.fnOf "_law_name" "_law_name" (defArgs s__law_name) (defBody s__law_name) (defScope s__law_name) .none kV7 dc7 pm7 an7 cd7 ct7), sl7⟩) (c7 : PySem.W.codeIn K cd7 "_law_name" = true) (k7 : PySem.W.keepIn K (.ref f7) = true)
    (a8 : PySem.W.nsIn K mainGlobals "_law_wants" = some (some (.ref f8))) (l8 : K.lookup f8 = some ⟨oc8, od8, .func (PySem.W.fnOf "_law_wants" "_law_wants" (defArgs s__law_wants) (defBody s__law_wants) (defScope s__law_wants) .none kV8 dc8 pm8 an8 cd8 ct8), sl8⟩) (c8 : PySem.W.codeIn K cd8 "_law_wants" = true) (k8 : PySem.W.keepIn K (.ref f8) = true)
    (a9 : PySem.W.nsIn K mainGlobals "_law_odd" = some (some (.ref f9))) (l9 : K.lookup f9 = some ⟨oc9, od9, .func (PySem.W.fnOf "_law_odd" "_law_odd" (defArgs s__law_odd) (defBody s__law_odd) (defScope s__law_odd) .none kV9 dc9 pm9 an9 cd9 ct9), sl9⟩) (c9 : PySem.W.codeIn K cd9 "_law_odd" = true) (k9 : PySem.W.keepIn K (.ref f9) = true)
    (a10 : PySem.W.nsIn K mainGlobals "_law_spoiled" = some (some (.ref f10))) (l10 : K.lookup f10 = some ⟨oc10, od10, .func (PySem.W.fnOf "_law_spoiled" "_law_spoiled" (defArgs s__law_spoiled) (defBody s__law_spoiled) (defScope s__law_spoiled) .none kV10 dc10 pm10 an10 cd10 ct10), sl10⟩) (c10 : PySem.W.codeIn K cd10 "_law_spoiled" = true) (k10 : PySem.W.keepIn K (.ref f10) = true)
    (a11 : PySem.W.nsIn K mainGlobals "_law_is_name" = some (some (.ref f11))) (l11 : K.lookup f11 = some ⟨oc11, od11, .func (PySem.W.fnOf "_law_is_name" "_law_is_name" (defArgs s__law_is_name) (defBody s__law_is_name) (defScope s__law_is_name) .none kV11 dc11 pm11 an11 cd11 ct11), sl11⟩) (c11 : PySem.W.codeIn K cd11 "_law_is_name" = true) (k11 : PySem.W.keepIn K (.ref f11) = true)
    (a12 : PySem.W.nsIn K mainGlobals "_law_due" = some (some (.ref f12))) (l12 : K.lookup f12 = some ⟨oc12, od12, .func (PySem.W.fnOf "_law_due" "_law_due" (defArgs s__law_due) (defBody s__law_due) (defScope s__law_due) .none kV12 dc12 pm12 an12 cd12 ct12), sl12⟩) (c12 : PySem.W.codeIn K cd12 "_law_due" = true) (k12 : PySem.W.keepIn K (.ref f12) = true)
    (a13 : PySem.W.nsIn K mainGlobals "_law_told" = some (some (.ref f13))) (l13 : K.lookup f13 = some ⟨oc13, od13, .func (PySem.W.fnOf "_law_told" "_law_told" (defArgs s__law_told) (defBody s__law_told) (defScope s__law_told) .none kV13 dc13 pm13 an13 cd13 ct13), sl13⟩) (c13 : PySem.W.codeIn K cd13 "_law_told" = true) (k13 : PySem.W.keepIn K (.ref f13) = true)
    (a14 : PySem.W.nsIn K mainGlobals "law" = some (some (.ref f14))) (l14 : K.lookup f14 = some ⟨oc14, od14, .func (PySem.W.fnOf "law" "law" (defArgs s_law) (defBody s_law) (defScope s_law) .none kV14 dc14 pm14 an14 cd14 ct14), sl14⟩) (c14 : PySem.W.codeIn K cd14 "law" = true) (k14 : PySem.W.keepIn K (.ref f14) = true)
    (a15 : PySem.W.nsIn K mainGlobals "LETTERS" = some (some (.str "abcdefghijklmnopqrstuvwxyz" t15)))
    (a16 : PySem.W.nsIn K mainGlobals "LONGEST" = some (some (.int 8 t16)))
    (a17 : PySem.W.nsIn K mainGlobals "MOST_THINGS" = some (some (.int 20 t17)))
    (a18 : PySem.W.nsIn K mainGlobals "GREATEST_COUNT" = some (some (.int 1000000000 t18)))
    (a19 : PySem.W.nsIn K mainGlobals "ValueError" = some none)
    (a20 : PySem.W.nsIn K mainGlobals "all" = some none)
    (a21 : PySem.W.nsIn K mainGlobals "bool" = some none)
    (a22 : PySem.W.nsIn K mainGlobals "dict" = some none)
    (a23 : PySem.W.nsIn K mainGlobals "enumerate" = some none)
    (a24 : PySem.W.nsIn K mainGlobals "int" = some none)
    (a25 : PySem.W.nsIn K mainGlobals "isinstance" = some none)
    (a26 : PySem.W.nsIn K mainGlobals "len" = some none)
    (a27 : PySem.W.nsIn K mainGlobals "list" = some none)
    (a28 : PySem.W.nsIn K mainGlobals "max" = some none)
    (a29 : PySem.W.nsIn K mainGlobals "min" = some none)
    (a30 : PySem.W.nsIn K mainGlobals "range" = some none)
    (a31 : PySem.W.nsIn K mainGlobals "str" = some none)
    (a32 : PySem.W.nsIn K mainGlobals "tuple" = some none)
    : Txt K mg :=
  ⟨⟨C_DearError, C_NoNumber, C_NoBook, C_NoTree, C_TooMany, C_NoCount, C_NoUndo, C_NoTurn, C_NoRow, C_Unknown, C_NoTongue, C_NoWants, C_NoThing, C_BadSign, C_NoText⟩,
   PySem.W.mg_of X G g_DearError,
   PySem.W.mg_of X G g_NoNumber,
   PySem.W.mg_of X G g_NoBook,
   PySem.W.mg_of X G g_NoTree,
   PySem.W.mg_of X G g_TooMany,
   PySem.W.mg_of X G g_NoCount,
   PySem.W.mg_of X G g_NoUndo,
   PySem.W.mg_of X G g_NoTurn,
   PySem.W.mg_of X G g_NoRow,
   PySem.W.mg_of X G g_Unknown,
   PySem.W.mg_of X G g_NoTongue,
   PySem.W.mg_of X G g_NoWants,
   PySem.W.mg_of X G g_NoThing,
   PySem.W.mg_of X G g_BadSign,
   PySem.W.mg_of X G g_NoText,
   ⟨PySem.W.mg_of X G g_DearError, d1, d2, d3⟩,
   ⟨PySem.W.mg_of X G g_NoWants, ⟨⟨nm_NoWants, qn_NoWants, N_NoWants, bs_NoWants, _, sn_NoWants, sb_NoWants, ab_NoWants, col_NoWants, dd_NoWants, m0_NoWants, m1_NoWants, m2_NoWants, m3_NoWants, m5_NoWants, xl_NoWants, rfl⟩, sa_NoWants, x3_NoWants, x4_NoWants, x2_NoWants⟩, fn_NoWants, ⟨x5_NoWants, x6_NoWants, x3_NoWants, x7_NoWants, x8_NoWants, x9_NoWants, x10_NoWants, x11_NoWants⟩⟩,
   ⟨I_NoWants, _, i1_NoWants, i2_NoWants, fun_mk (st := s_NoWants___init__) i3_NoWants i4_NoWants i5_NoWants, (fun_mk (st := s_NoWants___init__) i3_NoWants i4_NoWants i5_NoWants).binds (ps := ["self", "number"]) fun _ _ _ _ _ _ us hl => match us, hl with | [_, _], _ => rfl⟩,
   kit_ref n_NoWants_DearError i_DearError t_DearError q_NoWants_DearError,
   kit_ref n_NoWants_NoNumber i_NoNumber t_NoNumber q_NoWants_NoNumber,
   kit_ref n_NoWants_NoBook i_NoBook t_NoBook q_NoWants_NoBook,
   kit_ref n_NoWants_NoTree i_NoTree t_NoTree q_NoWants_NoTree,
   kit_ref n_NoWants_TooMany i_TooMany t_TooMany q_NoWants_TooMany,
   kit_ref n_NoWants_NoCount i_NoCount t_NoCount q_NoWants_NoCount,
   kit_ref n_NoWants_NoUndo i_NoUndo t_NoUndo q_NoWants_NoUndo,
   kit_ref n_NoWants_NoTurn i_NoTurn t_NoTurn q_NoWants_NoTurn,
   kit_ref n_NoWants_NoRow i_NoRow t_NoRow q_NoWants_NoRow,
   kit_ref n_NoWants_Unknown i_Unknown t_Unknown q_NoWants_Unknown,
   kit_ref n_NoWants_NoTongue i_NoTongue t_NoTongue q_NoWants_NoTongue,
   kit_self,
   kit_ref n_NoWants_NoThing i_NoThing t_NoThing q_NoWants_NoThing,
   kit_ref n_NoWants_BadSign i_BadSign t_BadSign q_NoWants_BadSign,
   kit_ref n_NoWants_NoText i_NoText t_NoText q_NoWants_NoText,
   kit_val q_NoWants_ValueError,
   exm_ref2 b_DearError i_DearError t_DearError q_NoWants_DearError,
   ⟨f1, _, PySem.W.mg_of X G a1, fun_mk (st := s_is_whole) l1 c1 k1, (fun_mk (st := s_is_whole) l1 c1 k1).binds (ps := ["thing"]) fun _ _ _ _ _ _ us hl => match us, hl with | [_], _ => rfl⟩,
   ⟨f2, _, PySem.W.mg_of X G a2, fun_mk (st := s_is_name) l2 c2 k2, (fun_mk (st := s_is_name) l2 c2 k2).binds (ps := ["thing"]) fun _ _ _ _ _ _ us hl => match us, hl with | [_], _ => rfl⟩,
   ⟨f3, _, PySem.W.mg_of X G a3, fun_mk (st := s_is_want) l3 c3 k3, (fun_mk (st := s_is_want) l3 c3 k3).binds (ps := ["thing"]) fun _ _ _ _ _ _ us hl => match us, hl with | [_], _ => rfl⟩,
   ⟨f4, _, PySem.W.mg_of X G a4, fun_mk (st := s_look_at_wants) l4 c4 k4, (fun_mk (st := s_look_at_wants) l4 c4 k4).binds (ps := ["thing"]) fun _ _ _ _ _ _ us hl => match us, hl with | [_], _ => rfl⟩,
   ⟨f5, _, PySem.W.mg_of X G a5, fun_mk (st := s__law_pool) l5 c5 k5, (fun_mk (st := s__law_pool) l5 c5 k5).binds (ps := ["_law_script", "_law_k"]) fun _ _ _ _ _ _ us hl => match us, hl with | [_, _], _ => rfl⟩,
   ⟨f6, _, PySem.W.mg_of X G a6, fun_mk (st := s__law_take) l6 c6 k6, (fun_mk (st := s__law_take) l6 c6 k6).binds (ps := ["_law_pool_here", "_law_many"]) fun _ _ _ _ _ _ us hl => match us, hl with | [_, _], _ => rfl⟩,
   ⟨f7, _, PySem.W.mg_of X G a7, fun_mk (st := s__law_name) l7 c7 k7, (fun_mk (st := s__law_name) l7 c7 k7).binds (ps := ["_law_k", "_law_salt"]) fun _ _ _ _ _ _ us hl => match us, hl with | [_, _], _ => rfl⟩,
   ⟨f8, _, PySem.W.mg_of X G a8, fun_mk (st := s__law_wants) l8 c8 k8, (fun_mk (st := s__law_wants) l8 c8 k8).binds (ps := ["_law_pool_here", "_law_many"]) fun _ _ _ _ _ _ us hl => match us, hl with | [_, _], _ => rfl⟩,
   ⟨f9, _, PySem.W.mg_of X G a9, fun_mk (st := s__law_odd) l9 c9 k9, (fun_mk (st := s__law_odd) l9 c9 k9).binds (ps := ["_law_pool_here", "_law_name_here", "_law_count"]) fun _ _ _ _ _ _ us hl => match us, hl with | [_, _, _], _ => rfl⟩,
   ⟨f10, _, PySem.W.mg_of X G a10, fun_mk (st := s__law_spoiled) l10 c10 k10, (fun_mk (st := s__law_spoiled) l10 c10 k10).binds (ps := ["_law_pool_here", "_law_wants_here"]) fun _ _ _ _ _ _ us hl => match us, hl with | [_, _], _ => rfl⟩,
   ⟨f11, _, PySem.W.mg_of X G a11, fun_mk (st := s__law_is_name) l11 c11 k11, (fun_mk (st := s__law_is_name) l11 c11 k11).binds (ps := ["_law_thing"]) fun _ _ _ _ _ _ us hl => match us, hl with | [_], _ => rfl⟩,
   ⟨f12, _, PySem.W.mg_of X G a12, fun_mk (st := s__law_due) l12 c12 k12, (fun_mk (st := s__law_due) l12 c12 k12).binds (ps := ["_law_things"]) fun _ _ _ _ _ _ us hl => match us, hl with | [_], _ => rfl⟩,
   ⟨f13, _, PySem.W.mg_of X G a13, fun_mk (st := s__law_told) l13 c13 k13, (fun_mk (st := s__law_told) l13 c13 k13).binds (ps := ["_law_things"]) fun _ _ _ _ _ _ us hl => match us, hl with | [_], _ => rfl⟩,
   ⟨f14, _, PySem.W.mg_of X G a14, fun_mk (st := s_law) l14 c14 k14, (fun_mk (st := s_law) l14 c14 k14).binds (ps := ["_law_script"]) fun _ _ _ _ _ _ us hl => match us, hl with | [_], _ => rfl⟩,
   ⟨_, PySem.W.mg_of X G a15⟩,
   ⟨_, PySem.W.mg_of X G a16⟩,
   ⟨_, PySem.W.mg_of X G a17⟩,
   ⟨_, PySem.W.mg_of X G a18⟩,
   PySem.W.mg_none_of X G a19,
   PySem.W.mg_none_of X G a20,
   PySem.W.mg_none_of X G a21,
   PySem.W.mg_none_of X G a22,
   PySem.W.mg_none_of X G a23,
   PySem.W.mg_none_of X G a24,
   PySem.W.mg_none_of X G a25,
   PySem.W.mg_none_of X G a26,
   PySem.W.mg_none_of X G a27,
   PySem.W.mg_none_of X G a28,
   PySem.W.mg_none_of X G a29,
   PySem.W.mg_none_of X G a30,
   PySem.W.mg_none_of X G a31,
   PySem.W.mg_none_of X G a32⟩
theorem oi_NoWants {P : Program} {w : World} {K : PySem.W.Frag} {mg : Str → Option Value} {base : Heap} (T : Txt K mg) : OkI P w K mg base "NoWants" "number" T.A.NoWants := by
  obtain ⟨fI, fd, h1, h2, F, b⟩ := T.F_NoWants
  refine ⟨fI, fd, h1, h2, F.ok c_NoWants___init__ (fun vs H Q E h => ?_) (fun cdv A outer s H vs Q E hr h => ?_), b, T.X_NoWants⟩
  · obtain ⟨a, C, v, rfl, _⟩ := h
    rfl
  · obtain ⟨a, C, v, rfl, o, n, ha, fv, k⟩ := h
    refine ⟨_, (pss_cons (ps_expr (pe_drinit T.D_DearError (pa_cons (pv 0) (pa_cons (pe_joined (.cons pe_str (.cons (pe_fmtN (pv 1)) .nil))) pa_nil)))) (pss_one (ps_ost (pv 0) (pv 1)))), ?_⟩
    refine ⟨_, rfl, _, rfl, (by decide +kernel), _, rfl, fv, fun z hz => ⟨z, rfl, ?_, ?_⟩⟩
    · rw [str_len]
      exact Nat.le_trans (Nat.add_le_add_right (show _ ≤ 100 by decide +kernel) _) (sz_lit (by omega))
    · exact ⟨a, C, _, rfl, (by decide : 1 ≤ 1000), o, ha, _, rfl, _, rfl, a, C, rfl, o, n, .inl ⟨ha, fun dx hd ne => k dx hd ne⟩⟩

end Dear


namespace Dear
open PySem PySem.Spec PyProof.Rows L2
/-! ### author B's draws -/
def spPool (K : PySem.W.Frag) : Sp := fun vs H Q _ => ∃ (a : Addr) (ns : List Int) (k : Int), vs = [.ref a, .int k] ∧ SqL K H a (ns.map V.int) ∧ 0 ≤ k ∧ k ≤ 1000000 ∧ ∀ (l : Addr) (H' : Hp), H l = none → Same H H' → Src H' l → Q (.ref l) H'
def spName : Sp := fun vs H Q _ => ∃ (k s : Nat), vs = [.int k, .int s] ∧ k ≤ 1000 ∧ s ≤ 100000 ∧ ∀ H', Same H H' → Q (.str (txt (nameL k s))) H'
def spWants : Sp := fun vs H Q _ => ∃ (l : Addr) (m : Int), vs = [.ref l, .int m] ∧ Src H l ∧ 1 ≤ m ∧ m ≤ 20 ∧
  ∀ (p : Addr) (xs : List V) (ws : List (List Nat × Int)) (H' : Hp), H p = none → p ≠ l → But l H H' → Src H' l → H' p = some (.lst xs) → DtAll H' xs (ws.map wantD) → WsOk ws → (ws.length : Int) = m → Q (.ref p) H'
theorem But.none {l p : Addr} {H H' : Hp} (B : But l H H') (h : H' p = none) (ne : p ≠ l) : H p = none := by
  cases e : H p with
  | none => rfl
  | some o =>
    rw [B _ _ e ne] at h
    cases h
section
variable {P : Program} {w : World} {K : PySem.W.Frag} {mg : Str → Option Value} {base : Heap}
theorem o__law_pool (T : Txt K mg) : OkF P w K mg base CX0 1 "_law_pool" ["_law_script", "_law_k"] (spPool K) := by
  refine T.f__law_pool.ok c__law_pool (fun vs H Q E h => ?_) (fun f cdv A outer s H vs Q E hr h => ?_)
  · obtain ⟨a, ns, k, rfl, _⟩ := h
    rfl
  · obtain ⟨a, ns, k, rfl, hS, k0, k9, q⟩ := h
    refine ⟨_, (pss_cons (ps_set (i := 2) c__law_pool.nd rfl (Or.inl rfl) pe_int)
(C8.pss_cut (ps_if (pt_cmpR op_lt (pv 1) (pe_callB (call_len_seq_k K) (by rfl) T.b_len PySem.boot_len (pa_cons (pv 0) pa_nil)) (nomark _))
(pss_one (ps_set (i := 2) c__law_pool.nd rfl (Or.inl rfl) (pe_ix (ix_list_k K) (pv 0) (pv 1) (fun _ _ => rfl))))
pss_nil)
(pss_cons (ps_set (i := 3) c__law_pool.nd rfl (Or.inl rfl) (pe_op op_mod (pe_op op_mul (pe_op op_add (pe_op op_add (pe_op op_mod (pv 2) pe_int) (pe_op op_mul (pe_op op_mul pe_int (pv 1)) (pv 1))) pe_int) pe_int) pe_int))
(C8.pss_cut (ps_if (pt_cmpR op_lt (pv 2) (pe_op op_pow pe_int pe_int) (nomark _))
(pss_one (ps_set (i := 2) c__law_pool.nd rfl (Or.inl rfl) pe_int))
pss_nil)
(pss_one (ps_ret (pe_lst (pa_cons (pv 2) (pa_cons (pv 3) pa_nil))))))))), ?_⟩
    refine ⟨fun σ' H' => H' = H ∧ ∃ c : Int, σ' = [some (.ref a), some (.int k), some (.int c), none], ?_, ?_⟩
    · refine ⟨_, rfl, _, rfl, _, _, rfl, .inl hS, _, _, rfl, rfl, _, rfl, itd (fun c => ?_) fun _ => ⟨rfl, 0, rfl⟩⟩
      obtain ⟨x, hx, hm, _⟩ := at_lt k0 c
      obtain ⟨z, _, rfl⟩ := List.mem_map.mp hm
      exact ⟨_, rfl, _, rfl, _, _, _, _, rfl, rfl, hS, hx, rfl, z, rfl⟩
    rintro σ' H' ⟨rfl, c, rfl⟩
    refine ⟨_, rfl, _, _, rfl, rfl, (by show (0 : Int) < 1000000007; decide), _, rfl, _, _, rfl, rfl, .inl ⟨by decide, by decide⟩, _, rfl, _, _, rfl, rfl, .inr ⟨by omega, by omega⟩, _, _, rfl, rfl, _, _, rfl, rfl, _, _, rfl, rfl, .inr ⟨by decide, by decide⟩, _, _, rfl, rfl, (by show (0 : Int) < 2147483647; decide), ?_⟩
    have b0 : 0 ≤ ((c % 1000000007 + 15485863 * k * k + 3) * 39373) % 2147483647 := Int.emod_nonneg _ (by decide)
    have b1 : ((c % 1000000007 + 15485863 * k * k + 3) * 39373) % 2147483647 < 2147483647 := Int.emod_lt_of_pos _ (by decide)
    refine ⟨fun σ' H'' => H'' = H' ∧ ∃ c' : Int, 0 ≤ c' ∧ σ' = [some (.ref a), some (.int k), some (.int c'), some (.int (((c % 1000000007 + 15485863 * k * k + 3) * 39373) % 2147483647))], ?_, ?_⟩
    · refine ⟨_, rfl, _, _, rfl, rfl, ⟨by decide, by decide, by decide⟩, _, _, rfl, rfl, _, rfl, itd (fun _ => ⟨rfl, 0, by decide, rfl⟩) fun h => ⟨rfl, c, ?_, rfl⟩⟩
      have h : ¬ c < (10 : Int) ^ (18 : Nat) := h
      omega
    rintro σ' H'' ⟨rfl, c', hc', rfl⟩
    exact ⟨_, rfl, _, rfl, (by show 2 ≤ sizeLine; decide), fun l hl => q l _ hl (Same.upd hl) ⟨_, _, upd_same, hc', b0, b1⟩⟩
theorem o__law_take (T : Txt K mg) : OkF P w K mg base CX0 1 "_law_take" ["_law_pool_here", "_law_many"] spDraw := by
  refine T.f__law_take.ok c__law_take (fun vs H Q E h => ?_) (fun f cdv A outer s H vs Q E hr h => ?_)
  · obtain ⟨l, m, rfl, _⟩ := h
    rfl
  · obtain ⟨l, m, rfl, ⟨n, z, h1, hn, hz, hz2⟩, hm, hm9, q⟩ := h
    refine ⟨_, (pss_cons (ps_if (pt_cmpR op_gt (pe_ix (ix_list_k K) (pv 0) pe_int (fun _ _ => rfl)) pe_int (nomark _))
(pss_cons (ps_set (i := 2) c__law_take.nd rfl (Or.inl rfl) (pe_op op_mod (pe_ix (ix_list_k K) (pv 0) pe_int (fun _ _ => rfl)) (pv 1)))
(pss_cons (ps_asg (pe_op op_fdivW (pe_ix (ix_list_k K) (pv 0) pe_int (fun _ _ => rfl)) (pv 1)) (pg_sub (pv 0) pe_int set_list))
(pss_one (ps_ret (pv 2)))))
pss_nil)
(pss_cons (ps_asg (pe_op op_mod (pe_op op_add (pe_op op_mul (pe_ix (ix_list_k K) (pv 0) pe_int (fun _ _ => rfl)) pe_int) pe_int) pe_int) (pg_sub (pv 0) pe_int set_list))
(pss_one (ps_ret (pe_op op_mod (pe_op op_fdivW (pe_op op_mod (pe_op op_mul (pe_ix (ix_list_k K) (pv 0) pe_int (fun _ _ => rfl)) (pe_ix (ix_list_k K) (pv 0) pe_int (fun _ _ => rfl))) pe_int) pe_int) (pv 1)))))), ?_⟩
    refine ⟨_, rfl, _, _, _, _, rfl, rfl, SqL.of h1, rfl, _, _, rfl, rfl, _, rfl, itd (fun c => ?_) fun c => ?_⟩
    · refine ⟨_, rfl, _, _, _, _, rfl, rfl, SqL.of h1, rfl, _, rfl, _, _, rfl, rfl, hm, ?_⟩
      refine ⟨_, rfl, _, _, _, _, rfl, rfl, SqL.of h1, rfl, _, rfl, _, _, rfl, rfl, ⟨hm, hm9⟩, _, rfl, _, _, _, _, rfl, rfl, h1, rfl, ?_⟩
      refine ⟨_, rfl, ?_⟩
      exact q _ _ (Int.emod_nonneg _ (by omega)) (Int.emod_lt_of_pos _ hm) But.upd ⟨_, _, upd_same, Int.ediv_nonneg (by omega) (by omega), hz, hz2⟩
    · refine ⟨_, rfl, _, _, _, _, rfl, rfl, SqL.of h1, rfl, _, _, rfl, rfl, .inr ⟨by decide, by decide⟩, _, _, rfl, rfl, _, _, rfl, rfl, (by show (0 : Int) < 2147483647; decide), _, rfl, _, _, _, _, rfl, rfl, h1, rfl, ?_⟩
      have b0 : 0 ≤ (z * 48271 + 11) % 2147483647 := Int.emod_nonneg _ (by decide)
      have b1 : (z * 48271 + 11) % 2147483647 < 2147483647 := Int.emod_lt_of_pos _ (by decide)
      refine ⟨_, rfl, _, _, _, _, rfl, rfl, SqL.of upd_same, rfl, _, rfl, _, _, _, _, rfl, rfl, SqL.of upd_same, rfl, _, _, rfl, rfl, .inl ⟨by omega, by omega⟩, _, _, rfl, rfl, (by show (0 : Int) < 2147483629; decide), _, _, rfl, rfl, ⟨by decide, by decide⟩, _, rfl, _, _, rfl, rfl, hm, ?_⟩
      exact q _ _ (Int.emod_nonneg _ (by omega)) (Int.emod_lt_of_pos _ hm) But.upd ⟨_, _, upd_same, hn, b0, b1⟩
theorem o__law_name (T : Txt K mg) : OkF P w K mg base CX0 1 "_law_name" ["_law_k", "_law_salt"] spName := by
  refine T.f__law_name.ok c__law_name (fun vs H Q E h => ?_) (fun f cdv A outer s H vs Q E hr h => ?_)
  · obtain ⟨k, s, rfl, _⟩ := h
    rfl
  · obtain ⟨k, s, rfl, hk, hs, q⟩ := h
    refine ⟨_, (pss_cons (ps_set (i := 2) c__law_name.nd rfl (Or.inl rfl) pe_str)
(pss_cons (ps_set (i := 3) c__law_name.nd rfl (Or.inl rfl) (pe_op op_mod (pe_op op_add (pe_op op_mul pe_int (pv 0)) (pv 1)) pe_int))
(pss_cons (ps_set (i := 4) c__law_name.nd rfl (Or.inl rfl) (pe_op op_add_str (pe_ix ix_str (pv 2) (pe_op op_mod (pv 3) pe_int) (fun _ _ => rfl)) (pe_ix (ix_list_k K) (pe_lst (pa_cons pe_str (pa_cons pe_str (pa_cons pe_str pa_nil)))) (pe_op op_fdivW (pv 3) pe_int) (fun _ _ => rfl))))
(pss_cons (ps_set (i := 5) c__law_name.nd rfl (Or.inl rfl) (pe_op op_repS (pe_ix ix_str (pv 2) (pe_op op_mod (pv 1) pe_int) (fun _ _ => rfl)) (pe_op op_mod (pe_op op_fdivW (pv 1) pe_int) pe_int)))
(pss_cons (ps_if (pt_cmpR op_eq (pe_op op_mod (pv 1) pe_int) pe_int (nomark _))
(pss_one (ps_ret (pe_op op_add_str (pv 5) (pv 4))))
pss_nil)
(pss_one (ps_ret (pe_op op_add_str (pv 4) (pv 5))))))))), ?_⟩
    refine ⟨_, rfl, _, _, rfl, rfl, .inl ⟨by decide, by decide⟩, _, rfl, _, _, rfl, rfl, _, _, rfl, rfl, (by show (0 : Int) < 61; decide), ?_⟩
    dsimp only
    rw [show ((37 * (k : Int) + (s : Int)) % 61 : Int) = (((37 * k + s) % 61 : Nat) : Int) by omega]
    have a61 : (37 * k + s) % 61 < 61 := Nat.mod_lt _ (by decide)
    have enm : nameL k s = if s % 2 = 0 then moreL s ++ tellL ((37 * k + s) % 61) else tellL ((37 * k + s) % 61) ++ moreL s := rfl
    generalize (37 * k + s) % 61 = a at a61 enm ⊢
    have z26 : letters.length ≤ sizeLine := by decide +kernel
    refine ⟨_, rfl, _, rfl, _, _, rfl, rfl, (by show (0 : Int) < 26; decide), letters, ((a % 26 : Nat) : Int), letN (a % 26), rfl, (by show V.int _ = V.int _; congr 1), z26, letN_atI (Nat.mod_lt _ (by decide)), ?_⟩
    refine ⟨(by show 3 ≤ sizeLine; decide), fun pL hL => ⟨_, rfl, _, _, rfl, rfl, ⟨by decide, by decide⟩, ?_⟩⟩
    have s1 := Same.upd (o := .lst [.str "", .str "a", .str "zz"]) hL
    have ea : atI [V.str "", V.str "a", V.str "zz"] ((a : Int) / 26) = some (.str (txt (sufL a))) := by
      have : a / 26 = 0 ∨ a / 26 = 1 ∨ a / 26 = 2 := by omega
      rw [show ((a : Int) / 26) = ((a / 26 : Nat) : Int) by omega]
      unfold sufL
      rcases this with e | e | e <;> rw [e] <;> exact atI_nat rfl
    refine ⟨_, _, _, _, rfl, rfl, SqL.of upd_same, ea, _, _, rfl, rfl, ?_, ?_⟩
    · have := suf_len a
      rw [txt_length]
      exact sz_lit (by show 1 + _ ≤ 1000; omega)
    dsimp only
    rw [show (⟨#[letN (a % 26)]⟩ : Str) ++ txt (sufL a) = txt (tellL a) from txt_app [letN (a % 26)] (sufL a)]
    refine ⟨_, rfl, _, rfl, _, _, rfl, rfl, (by show (0 : Int) < 26; decide), letters, ((s % 26 : Nat) : Int), letN (s % 26), rfl, (by show V.int _ = V.int _; congr 1), z26, letN_atI (Nat.mod_lt _ (by decide)), ?_⟩
    refine ⟨_, rfl, _, _, rfl, rfl, ⟨by decide, by decide⟩, _, _, rfl, rfl, (by show (0 : Int) < 6; decide), ?_⟩
    refine ⟨[letN (s % 26)], _, rfl, rfl, by omega, by omega, (by show 1 ≤ 1000; decide), ?_⟩
    rw [show ((s : Int) / 26 % 6).toNat = s / 26 % 6 by omega, show repT [letN (s % 26)] (s / 26 % 6) = moreL s from rfl]
    have lm : (moreL s).length ≤ 5 := by
      unfold moreL
      rw [repT_len]
      show s / 26 % 6 * 1 ≤ 5
      omega
    have lt : (tellL a).length ≤ 3 := by
      have := suf_len a
      show (sufL a).length + 1 ≤ 3
      omega
    refine ⟨_, rfl, _, _, rfl, rfl, (by show (0 : Int) < 2; decide), rfl, _, rfl, itd (fun e => ?_) fun e => ?_⟩
    · have e : (s : Int) % 2 = 0 := by injection e
      rw [if_pos (by omega)] at enm
      refine ⟨_, rfl, _, rfl, _, _, rfl, rfl, sz_lit (by rw [txt_length, txt_length]; omega), ?_⟩
      rw [txt_app, ← enm]
      exact q _ s1
    · rw [if_neg fun z => e (by show V.int ((s : Int) % 2) = V.int 0; rw [show (s : Int) % 2 = 0 by omega])] at enm
      refine ⟨_, rfl, _, rfl, _, _, rfl, rfl, sz_lit (by rw [txt_length, txt_length]; omega), ?_⟩
      rw [txt_app, ← enm]
      exact q _ s1
theorem o__law_wants (T : Txt K mg) : OkF P w K mg base CX0 2 "_law_wants" ["_law_pool_here", "_law_many"] spWants := by
  have o__law_take := o__law_take (P := P) (w := w) (base := base) T
  have o__law_name := o__law_name (P := P) (w := w) (base := base) T
  refine T.f__law_wants.ok c__law_wants (fun vs H Q E h => ?_) (fun f cdv A outer s H vs Q E hr h => ?_)
  · obtain ⟨l, m, rfl, _⟩ := h
    rfl
  · obtain ⟨l, m, rfl, S, m1, m20, q⟩ := h
    refine ⟨_, (pss_cons (ps_set (i := 2) c__law_wants.nd rfl (Or.inl rfl) (pe_c o__law_take hr (pa_cons (pv 0) (pa_cons pe_int pa_nil))))
(pss_cons (ps_set (i := 3) c__law_wants.nd rfl (Or.inl rfl) (pe_lst pa_nil))
(pss_cons (ps_for PassesOwn.never rfl (pi_range1 (by rfl) T.b_range (pa_cons (pv 1) pa_nil)) (pg_name (i := 4) c__law_wants.nd rfl (Or.inl rfl))
(pss_cons (ps_set (i := 5) c__law_wants.nd rfl (Or.inl rfl) (pe_c o__law_take hr (pa_cons (pv 0) (pa_cons pe_int pa_nil))))
(pss_cons (ps_set (i := 6) c__law_wants.nd rfl (Or.inl rfl) (pe_c o__law_take hr (pa_cons (pv 0) (pa_cons (pe_ix (ix_list_k K) (pe_lst (pa_cons pe_int (pa_cons pe_int (pa_cons (pe_op op_add (pe_op op_pow pe_int pe_int) pe_int) (pa_cons pe_int pa_nil))))) (pv 5) (fun _ _ => rfl)) pa_nil))))
(C8.pss_cut (ps_if (pt_cmpR op_eq (pv 5) pe_int (nomark _))
(pss_one (ps_set (i := 6) c__law_wants.nd rfl (Or.inl rfl) (pe_op op_sub (pe_op op_pow pe_int pe_int) (pv 6))))
pss_nil)
(pss_one (ps_expr (pe_bm PySem.F.plainAttrs_list PySem.F.slot_list_append PySem.F.type_list_append mt_append (pv 3) (pa_cons (pe_tup (pa_cons (pe_c o__law_name hr (pa_cons (pv 4) (pa_cons (pv 2) pa_nil))) (pa_cons (pv 6) pa_nil))) pa_nil))))))))
(pss_one (ps_ret (pv 3)))))), ?_⟩
    refine ⟨_, rfl, l, 9516, rfl, S, by decide, log_le 9516 (by decide), fun sa H1 sa0 sa1 B1 S1 => ⟨(by show 0 ≤ sizeLine; decide), fun p hp => ?_⟩⟩
    have ne : p ≠ l := S1.ne hp
    have hpH : H p = none := B1.none hp ne
    obtain ⟨sn, rfl⟩ := Int.eq_ofNat_of_zero_le sa0
    have sn1 : sn ≤ 100000 := by omega
    refine ⟨_, rfl, m, rfl, by omega, by omega, for_range (lo := 0) (n := m.toNat) (fun j σ H' => But l H H' ∧ Src H' l ∧ ∃ (xs : List V) (ws : List (List Nat × Int)) (v4 v5 v6 : Option V), σ = [some (.ref l), some (.int m), some (.int (sn : Int)), some (.ref p), v4, v5, v6] ∧ H' p = some (.lst xs) ∧ DtAll H' xs (ws.map wantD) ∧ ws.map Prod.fst = (List.range j).map (fun k => nameL k sn) ∧ ∀ w ∈ ws, 0 ≤ w.2 ∧ w.2 ≤ 1000000000)
      ⟨B1.new hp, S1.same (Same.upd hp), [], [], _, _, _, rfl, upd_same, .nil, rfl, (fun _ h => nomatch h)⟩ ?_ ?_⟩
    · rintro j σ H2 hj ⟨B2, S2, xs, ws, v4, v5, v6, rfl, hx, hd, hn, hc⟩
      rw [Int.zero_add]
      have pu : ∀ {ws : List (List Nat × Int)}, PuAll (ws.map wantD) := by
        intro ws
        induction ws with
        | nil => trivial
        | cons w r ih => exact ⟨⟨trivial, trivial, trivial⟩, ih⟩
      have j20 : j < 20 := by omega
      have lw : ws.length = j := by
        have := congrArg List.length hn
        simpa using this
      refine ⟨_, rfl, l, 4, rfl, S2, by decide, log_le 4 (by decide), fun way H3 w0 w1 B3 S3 => ?_⟩
      refine ⟨_, rfl, _, _, rfl, rfl, ⟨by decide, by decide, by decide⟩, _, _, rfl, rfl, (by show 4 ≤ sizeLine; decide), fun pq hq => ⟨_, rfl, ?_⟩⟩
      have s4 := Same.upd (o := .lst [.int 1, .int 10, .int (10 ^ (9 : Int).toNat + 1), .int 3]) hq
      have S4 := S3.same s4
      obtain ⟨x, hx4, hm4, _⟩ := at_lt (xs := [V.int 1, .int 10, .int (10 ^ (9 : Int).toNat + 1), .int 3]) w0 w1
      obtain ⟨t, rfl, t0, t9⟩ : ∃ t : Int, x = .int t ∧ 0 < t ∧ t ≤ 1000000001 := by
        simp only [List.mem_cons, List.not_mem_nil, or_false] at hm4
        rcases hm4 with rfl | rfl | rfl | rfl
        · exact ⟨1, rfl, by decide, by decide⟩
        · exact ⟨10, rfl, by decide, by decide⟩
        · exact ⟨1000000001, rfl, by decide, by decide⟩
        · exact ⟨3, rfl, by decide, by decide⟩
      refine ⟨_, _, _, _, rfl, rfl, SqL.of upd_same, hx4, l, t, rfl, S4, t0, log_le 1000000001 (by omega), fun c H5 c0 c1 B5 S5 => ?_⟩
      have B25 : But l H2 H5 := (B3.trans (.of s4)).trans B5
      have B05 := B2.trans B25
      have hx5 := B25 _ _ hx ne
      have hd5 := hd.tp (TP.src B25 S2) pu
      refine ⟨fun σ' H' => H' = H5 ∧ ∃ (c : Int) (v5 : Option V), σ' = [some (.ref l), some (.int m), some (.int (sn : Int)), some (.ref p), some (.int (j : Int)), v5, some (.int c)] ∧ 0 ≤ c ∧ c ≤ 1000000000, ?_, ?_⟩
      · refine ⟨_, rfl, rfl, _, rfl, itd (fun e => ?_) fun e => ?_⟩
        · have e : way = 3 := by injection e
          subst e
          have et : t = 3 := by
            have : atI [V.int 1, .int 10, .int (10 ^ (9 : Int).toNat + 1), .int 3] 3 = some (.int 3) := rfl
            rw [this] at hx4
            injection hx4 with hx4
            injection hx4 with hx4
            exact hx4.symm
          refine ⟨_, _, rfl, rfl, ⟨by decide, by decide, by decide⟩, _, rfl, _, _, rfl, rfl, rfl, _, _, rfl, ?_⟩
          show (0 : Int) ≤ (10 : Int) ^ (9 : Int).toNat - c ∧ (10 : Int) ^ (9 : Int).toNat - c ≤ 1000000000
          rw [show ((10 : Int) ^ (9 : Int).toNat) = 1000000000 by decide]
          omega
        · refine ⟨rfl, c, _, rfl, c0, ?_⟩
          have : t ≤ 1000000001 := t9
          omega
      rintro σ' H' ⟨rfl, c, v5, rfl, c0, c9⟩
      refine ⟨_, rfl, .inl ⟨rfl, _, SqL.of hx5⟩, _, rfl, _, rfl, j, sn, rfl, by omega, sn1, fun H6 s6 => ⟨_, rfl, (by show 2 ≤ sizeLine; decide), fun r hr6 => ?_⟩⟩
      have s7 := Same.upd (o := .tup [.str (txt (nameL j sn)), .int c]) hr6
      have s57 := s6.trans s7
      have hx7 := s57 _ _ hx5
      have ner : r ≠ p := fun z => by
        subst z
        rw [s6 _ _ hx5] at hr6
        cases hr6
      have lx : xs.length = j := by
        rw [hd.length, List.length_map, lw]
      refine ⟨p, _, _, rfl, rfl, hx7, ?_, ?_, ?_, xs ++ [.ref r], ws ++ [(nameL j sn, c)], _, _, _, rfl, upd_same, ?_, ?_, ?_⟩
      · exact small1000 (by omega)
      · intro b o hb hbl
        rw [upd_ne (ne_of_none hb hpH)]
        exact s57 _ _ (B05 _ _ hb hbl)
      · obtain ⟨n9, z9, e9, r9⟩ := S5.same s57
        exact ⟨n9, z9, by rw [upd_ne (Ne.symm ne)]; exact e9, r9⟩
      · rw [List.map_append]
        have tp := TP.upd (o := .lst (xs ++ [.ref r])) hx7
        refine (DtAll.tp (tp) pu (hd5.same s57)).app (.cons ?_ .nil)
        refine .tup ?_ (.cons (.str _) (.cons (.int _) .nil))
        rw [upd_ne ner]
        exact upd_same
      · rw [List.map_append, hn, List.range_succ, List.map_append]
        rfl
      · intro w hw
        rcases List.mem_append.mp hw with hw | hw
        · exact hc w hw
        · have : w = (nameL j sn, c) := by simpa using hw
          subst this
          exact ⟨c0, c9⟩
    · rintro σ H2 ⟨B2, S2, xs, ws, v4, v5, v6, rfl, hx, hd, hn, hc⟩
      have lw : ws.length = m.toNat := by
        have := congrArg List.length hn
        simpa using this
      refine ⟨_, rfl, q p xs ws H2 hpH ne B2 S2 hx hd ⟨fun w hw => ?_, ?_⟩ (by omega)⟩
      · have : w.1 ∈ (List.range m.toNat).map (fun k => nameL k sn) := by
          rw [← hn]
          exact List.mem_map_of_mem hw
        obtain ⟨k, _, e⟩ := List.mem_map.mp this
        obtain ⟨n1, n2, n3⟩ := name_of k sn
        rw [e] at n1 n2 n3
        exact ⟨n1, n2, n3, (hc w hw).1, (hc w hw).2⟩
      · rw [hn]
        exact names_nodup sn _ (by omega)
end
end Dear

namespace Dear
open PySem PySem.Spec PyProof.Rows L2
section
variable {P : Program} {w : World} {K : PySem.W.Frag} {mg : Str → Option Value} {base : Heap}
theorem o_is_whole (T : Txt K mg) : OkF P w K mg base CX0 1 "is_whole" ["thing"] spWhole := by
  refine T.f_is_whole.ok c_is_whole (fun vs H Q E h => ?_) (fun f cdv A outer s H vs Q E hr h => ?_)
  · obtain ⟨v, n, rfl, _⟩ := h
    rfl
  · obtain ⟨v, d, rfl, hI, k⟩ := h
    refine ⟨_, (pss_one (ps_ret (pe_and (pe_callB (call_isi_k K) (by rfl) T.b_isinstance (by decide +kernel) (pa_cons (pv 0) (pa_cons (pe_bltn (v := .ty "int") (by rfl) T.b_int (by decide +kernel) rfl) pa_nil))) (pe_one (pe_not (pe_callB (call_isi_k K) (by rfl) T.b_isinstance (by decide +kernel) (pa_cons (pv 0) (pa_cons (pe_bltn (v := .ty "bool") (by rfl) T.b_bool (by decide +kernel) rfl) pa_nil)))))))), ?_⟩
    refine ⟨_, rfl, _, _, _, _, _, rfl, .ty _, hI.ty, kit_ty (kd_int d), _, rfl, ?_⟩
    cases d with
    | int i => exact iteT ⟨_, rfl, _, _, _, _, _, rfl, .ty _, hI.ty, kit_ty (kd_bool _), _, rfl, k⟩
    | bl i => exact iteT ⟨_, rfl, _, _, _, _, _, rfl, .ty _, hI.ty, kit_ty (kd_bool _), _, rfl, k⟩
    | non => exact iteF k
    | str z => exact iteF k
    | lst z => exact iteF k
    | tup z => exact iteF k
    | dct => exact iteF k
theorem o_is_name (T : Txt K mg) : OkF P w K mg base CX0 1 "is_name" ["thing"] spNm := by
  refine T.f_is_name.ok c_is_name (fun vs H Q E h => ?_) (fun f cdv A outer s H vs Q E hr h => ?_)
  · obtain ⟨v, n, rfl, _⟩ := h
    rfl
  · obtain ⟨v, d, rfl, hI, ok, k⟩ := h
    refine ⟨_, (pss_cons (ps_if (PW.pt (pw_or (pt_not (pt_val (pe_callB (call_isi_k K) (by rfl) T.b_isinstance (by decide +kernel) (pa_cons (pv 0) (pa_cons (pe_bltn (v := .ty "str") (by rfl) T.b_str (by decide +kernel) rfl) pa_nil))))) (pw_or1 (pt_not (pt_chain op_le op_le pe_int (pe_callB call_len_str (by rfl) T.b_len PySem.boot_len (pa_cons (pv 0) pa_nil)) (pe_gi T.g_LONGEST))))))
(pss_one (ps_ret pe_bl))
pss_nil)
(pss_one (ps_ret (pe_callB (cr_all_k K rfl) (by rfl) T.b_all (by decide +kernel) (pa_cons (pe_lc (own := [("sign", 1)]) (g := gName 1) (tt := tYes) (by rfl) c_is_name.nd (pi_str (pv 0)) (blkOk_by (own := [("sign", 1)]) (N := n_is_name) (sc := defScope s_is_name) (by decide +kernel)) (fun _ _ _ _ _ => (pg_name (i := 1) c_is_name.nd rfl (Or.inl rfl))) (fun _ _ _ _ _ => pts_nil) (fun _ _ _ _ _ => (pe_cmpR op_in_sign (pv 1) (pe_gs T.g_LETTERS) rfl))) pa_nil))))), ?_⟩
    refine ⟨_, rfl, _, _, _, _, _, rfl, .ty _, hI.ty, kit_ty (kd_str d), _, rfl, ?_⟩
    cases hI with
    | str z =>
      have hz : z.length ≤ sizeLine := Nat.le_trans ok.1 (by decide)
      refine iteF ⟨_, rfl, _, rfl, hz, _, _, rfl, rfl, _, rfl, itd (fun c1 => ?_) fun c1 => ?_⟩
      · refine ⟨_, _, rfl, rfl, _, rfl, itnd (fun c2 => ?_) fun c2 => ?_⟩
        · have e3 : isNm (.str z) = false := by
            show (decide (1 ≤ z.length ∧ z.length ≤ 8) && _) = false
            rw [decide_eq_false (by omega), Bool.false_and]
          rw [e3] at k
          exact k H (Same.refl H)
        · refine ⟨_, rfl, z, rfl, fun D hD => lc_it walk_str (fun i H' => ∃ bs : List Bool, bs = (z.cps.toList.take i).map (fun c => decide (c ∈ letters.cps.toList)) ∧ H' = upd H D (.lst (bs.map V.bl))) ⟨[], rfl, rfl⟩ (fun _ _ _ _ => trivial) ?_ ?_⟩
          · rintro i x H' H'' hi ⟨bs, eb, rfl⟩ ⟨rfl, c, hc, rfl⟩
            refine ⟨rfl, _, rfl, _, _, rfl, rfl, _, upd_same, ?_, ?_⟩
            · rw [List.length_map, eb, List.length_map, List.length_take]
              exact Nat.lt_of_le_of_lt (Nat.min_le_left _ _) (Nat.lt_of_lt_of_le hi (by show z.length ≤ _; exact hz))
            · refine ⟨bs ++ [decide (c ∈ letters.cps.toList)], ?_, ?_⟩
              · have hc' : z.cps.toList[i]? = some c := by rw [Array.getElem?_toList]; exact hc
                rw [eb, List.take_succ, hc']
                simp
              · rw [upd_upd, List.map_append]
                rfl
          · rintro H' ⟨bs, eb, rfl⟩
            refine ⟨D, bs, rfl, SqL.of upd_same, ?_⟩
            have e3 : isNm (.str z) = bs.all id := by
              show (decide (1 ≤ z.length ∧ z.length ≤ 8) && _) = _
              rw [decide_eq_true (by omega), Bool.true_and, eb]
              have e4 : z.cps.toList.take z.cps.size = z.cps.toList := by rw [← Array.length_toList, List.take_length]
              rw [e4, List.all_map]
              rfl
            rw [e3] at k
            exact k _ (Same.upd hD)
      · have e3 : isNm (.str z) = false := by
          show (decide (1 ≤ z.length ∧ z.length ≤ 8) && _) = false
          rw [decide_eq_false (by omega), Bool.false_and]
        rw [e3] at k
        exact ⟨_, rfl, iteT (k H (Same.refl H))⟩
    | non => exact iteT (k H (Same.refl H))
    | bl _ => exact iteT (k H (Same.refl H))
    | int _ => exact iteT (k H (Same.refl H))
    | lst _ _ => exact iteT (k H (Same.refl H))
    | tup _ _ => exact iteT (k H (Same.refl H))
    | dct _ => exact iteT (k H (Same.refl H))
end
end Dear

namespace Dear
open PySem PySem.Spec PyProof.Rows L2
def spWant : Sp := fun vs H Q _ => ∃ (v : V) (d : D), vs = [v] ∧ Dt H v d ∧ Ok d ∧ ∀ H', Same H H' → Q (.bl (isWant d)) H'
/-- None of good ones, else refused with the number of the first that can't stand -/
def spLookW (C : Addr) : Sp := fun vs H Q E => ∃ (v : V) (d : D), vs = [v] ∧ Dt H v d ∧ Ok d ∧ (wantsBad d = none → ∀ H', Same H H' → Q .non H') ∧
  ∀ u, wantsBad d = some u → ∀ (dd : Addr) (H' : Hp), Same H H' → H dd = none → H' dd = some (.xd [("number", u)]) → E (.ref C) (some dd) H'
theorem isWant_len : ∀ {ds : List D}, ds.length ≠ 2 → isWant (.tup ds) = false
  | [], _ => rfl
  | [d], _ => by cases d <;> rfl
  | [_, _], h => absurd rfl h
  | d :: e :: _ :: _, _ => by cases d <;> cases e <;> rfl
def cntOk : D → Bool
  | .int c => decide (0 ≤ c ∧ c ≤ 1000000000)
  | _ => false
theorem isWant_two (a b : D) : isWant (.tup [a, b]) = (isNm a && (isInt b && cntOk b)) := by
  cases b <;> simp [isWant, isInt, cntOk]
/-- what a want is -/
theorem isWant_shape {d : D} (h : isWant d = true) : ∃ (z : Str) (c : Int), d = .tup [.str z, .int c] ∧ isNm (.str z) = true := by
  match d, h with
  | .tup [a, .int c], h =>
    have h : (isNm a && decide (0 ≤ c ∧ c ≤ 1000000000)) = true := h
    rw [Bool.and_eq_true] at h
    cases a with
    | str z => exact ⟨z, c, rfl, h.1⟩
    | _ => cases h.1
section
variable {P : Program} {w : World} {K : PySem.W.Frag} {mg : Str → Option Value} {base : Heap}
theorem o_is_want (T : Txt K mg) : OkF P w K mg base CX0 2 "is_want" ["thing"] spWant := by
  have o_is_whole := o_is_whole (P := P) (w := w) (base := base) T
  have o_is_name := o_is_name (P := P) (w := w) (base := base) T
  refine T.f_is_want.ok c_is_want (fun vs H Q E h => ?_) (fun f cdv A outer s H vs Q E hr h => ?_)
  · obtain ⟨v, n, rfl, _⟩ := h
    rfl
  · obtain ⟨v, d, rfl, hI, ok, k⟩ := h
    refine ⟨_, (pss_cons (ps_if (PW.pt (pw_or (pt_not (pt_val (pe_callB (call_isi_k K) (by rfl) T.b_isinstance (by decide +kernel) (pa_cons (pv 0) (pa_cons (pe_bltn (v := .ty "tuple") (by rfl) T.b_tuple (by decide +kernel) rfl) pa_nil))))) (pw_or (pt_cmpR op_ne (pe_callB (call_len_seq_k K) (by rfl) T.b_len PySem.boot_len (pa_cons (pv 0) pa_nil)) pe_int (nomark _)) (pw_or1 (pt_not (pt_val (pe_c o_is_name hr (pa_cons (pe_ix (ix_tup_k K) (pv 0) pe_int (fun _ _ => rfl)) pa_nil))))))))
(pss_one (ps_ret pe_bl))
pss_nil)
(pss_one (ps_ret (pe_and (pe_c o_is_whole hr (pa_cons (pe_ix (ix_tup_k K) (pv 0) pe_int (fun _ _ => rfl)) pa_nil)) (pe_one (pe_chain op_le op_le pe_int (pe_ix (ix_tup_k K) (pv 0) pe_int (fun _ _ => rfl)) (pe_gi T.g_GREATEST_COUNT))))))), ?_⟩
    refine ⟨_, rfl, _, _, _, _, _, rfl, .ty _, hI.ty, kit_ty (kd_tuple d), _, rfl, ?_⟩
    cases hI with
    | tup ha hall =>
      rename_i a xs ds
      refine iteF ⟨_, rfl, _, _, rfl, .inr (SqT.of ha), rfl, _, rfl, ?_⟩
      by_cases hl : xs.length = 2
      · have e2 : decide (V.int ((xs.length : Nat) : Int) = V.int 2) = true := by rw [hl]; decide
        rw [e2]
        refine iteF ?_
        match xs, ds, hall, hl with
        | [x, y], _, .cons (d := d1) h1 (.cons (d := d2) h2 .nil), _ =>
          have ok : Ok d1 ∧ Ok d2 ∧ True := ok
          rw [isWant_two] at k
          refine ⟨_, rfl, _, _, _, _, rfl, rfl, SqT.of ha, rfl, x, d1, rfl, h1, ok.1, fun H1 s1 => ⟨_, rfl, ?_⟩⟩
          cases e1 : isNm d1 with
          | false =>
            rw [e1] at k
            exact iteT (k _ s1)
          | true =>
            rw [e1] at k
            have h2' := h2.same s1
            refine iteF ⟨_, rfl, _, _, _, _, rfl, rfl, SqT.of (s1 _ _ ha), rfl, y, d2, rfl, h2', _, rfl, ?_⟩
            cases h2' with
            | int c =>
              refine iteT ⟨_, rfl, _, _, _, _, rfl, rfl, SqT.of (s1 _ _ ha), rfl, _, _, rfl, rfl, _, rfl, itd (fun c1 => ?_) fun c1 => ?_⟩
              · refine ⟨_, _, rfl, rfl, ?_⟩
                have fin := k _ s1
                have e3 : (true && (isInt (.int c) && decide (0 ≤ c ∧ c ≤ 1000000000))) = decide (c ≤ 1000000000) := by
                  show decide (0 ≤ c ∧ c ≤ 1000000000) = _
                  exact decide_eq_decide.mpr ⟨fun h => h.2, fun h => ⟨c1, h⟩⟩
                have fin : Q (.bl (true && (isInt (.int c) && decide (0 ≤ c ∧ c ≤ 1000000000)))) H1 := fin
                rw [e3] at fin
                exact fin
              · have fin : Q (.bl (true && (isInt (.int c) && decide (0 ≤ c ∧ c ≤ 1000000000)))) H1 := k _ s1
                rw [decide_eq_false fun z => c1 z.1] at fin
                exact fin
            | _ => exact iteF (k _ s1)
      · have e2 : decide (V.int ((xs.length : Nat) : Int) = V.int 2) = false := decide_eq_false fun z => hl (by injection z with z; omega)
        rw [e2]
        refine iteT ?_
        rw [isWant_len (by rw [← hall.length]; exact hl)] at k
        exact k H (Same.refl H)
    | _ => exact iteT (k H (Same.refl H))
/-- the names seen so far, as the dict holds them -/
def SeenK (seen : List Str) (kvs : List (Key × V)) : Prop := (∀ z : Str, (valV kvs (Sum.inr z)).isSome = decide (z ∈ seen)) ∧ kvs.length ≤ seen.length
theorem SeenK.put {seen : List Str} {kvs : List (Key × V)} {z : Str} {v : V} (h : SeenK seen kvs) : SeenK (seen ++ [z]) (putK kvs (Sum.inr z) v) := by
  constructor
  · intro y
    by_cases e : y = z
    · subst e
      rw [valV_put, if_pos rfl]
      simp
    · rw [valV_put, if_neg (by intro q; injection q with q; exact e q), h.1 y]
      refine decide_eq_decide.mpr ⟨fun q => List.mem_append_left _ q, fun q => ?_⟩
      rcases List.mem_append.mp q with q | q
      · exact q
      · exact absurd (by simpa using q) e
  · have := length_putK kvs (Sum.inr z) v
    rw [List.length_append]
    show _ ≤ _ + 1
    have h2 := h.2
    omega
theorem bad_step {d : D} {r : List D} {i : Nat} {seen : List Str} : badAt i seen (d :: r) = if isWant d && !decide (nameD d ∈ seen) then badAt (i + 1) (seen ++ [nameD d]) r else some (.int (i : Nat)) := rfl
theorem o_look_at_wants (T : Txt K mg) : OkF P w K mg base (L2.CX P w) 4 "look_at_wants" ["thing"] (spLookW T.A.NoWants) := by
  have o_is_want := o_is_want (P := P) (w := w) (base := base) T
  have oi_NoWants := oi_NoWants (P := P) (w := w) (base := base) T
  refine T.f_look_at_wants.okX c_look_at_wants (fun vs H Q E h => ?_) (fun f cdv A outer s H vs Q E hr h => ?_)
  · obtain ⟨v, d, rfl, _⟩ := h
    rfl
  · obtain ⟨v, d, rfl, hI, ok, k, kE⟩ := h
    refine ⟨_, (pss_cons (ps_if (PW.pt (pw_or (pt_not (pt_val (pe_callB (call_isi_k K) (by rfl) T.b_isinstance (by decide +kernel) (pa_cons (pv 0) (pa_cons (pe_bltn (v := .ty "list") (by rfl) T.b_list (by decide +kernel) rfl) pa_nil))))) (pw_or1 (pt_not (pt_chain op_le op_le pe_int (pe_callB (call_len_seq_k K) (by rfl) T.b_len PySem.boot_len (pa_cons (pv 0) pa_nil)) (pe_gi T.g_MOST_THINGS))))))
(pss_one (ps_raise rfl (takes_of rfl rfl rfl rfl) (pmk_i oi_NoWants hr (pa_cons pe_non pa_nil))))
pss_nil)
(pss_cons (ps_set (i := 1) c_look_at_wants.nd rfl (Or.inl rfl) pe_dnewK)
(pss_one (ps_for (passes_of rfl) rfl (pi_enum (by rfl) T.b_enumerate (pa_cons (pv 0) pa_nil)) (pg_tup_k K (n := 2) rfl (pgs_cons (pg_name (i := 2) c_look_at_wants.nd rfl (Or.inl rfl)) (pgs_cons (pg_name (i := 3) c_look_at_wants.nd rfl (Or.inl rfl)) pgs_nil)))
(pss_cons (ps_if (PW.pt (pw_or (pt_not (pt_val (pe_c o_is_want hr (pa_cons (pv 3) pa_nil)))) (pw_or1 (pt_cmp (pc_din (u1 hr.units) (pe_ix (ix_tup_k K) (pv 3) pe_int (fun _ _ => rfl)) (pv 1))))))
(pss_one (ps_raise rfl (takes_of rfl rfl rfl rfl) (pmk_i oi_NoWants hr (pa_cons (pv 2) pa_nil))))
pss_nil)
(pss_one (ps_dput (u1 hr.units) (pv 1) (pe_ix (ix_tup_k K) (pv 3) pe_int (fun _ _ => rfl)) pe_bl rfl))))))), ?_⟩
    refine ⟨_, rfl, _, _, _, _, _, rfl, .ty _, hI.ty, kit_ty (kd_list d), _, rfl, ?_⟩
    have no : wantsBad d = some .non → ∀ dd : Addr, H dd = none → E (.ref T.A.NoWants) (some dd) (upd H dd (.xd [("number", .non)])) := fun e dd hd => kE _ e dd _ (Same.upd hd) hd upd_same
    cases hI with
    | lst ha hall =>
      rename_i a xs ds
      have hl := hall.length
      refine iteF ⟨_, rfl, _, _, rfl, .inl (SqL.of ha), _, _, rfl, rfl, _, rfl, itd (fun c1 => ?_) fun c1 => ?_⟩
      · refine ⟨_, _, rfl, rfl, _, rfl, itnd (fun c2 => ?_) fun c2 => ?_⟩
        · exact mkx T.X_NoWants (.inl rfl) (no (if_neg (by omega)))
        have e0 : wantsBad (.lst ds) = badAt 0 [] ds := if_pos (by omega)
        rw [e0] at k kE
        refine fun nd hn => ?_
        have s1 := Same.upd (o := .dK []) hn
        have e1 : (upd H nd (.dK [])) nd = some (.dK []) := upd_same
        generalize upd H nd (.dK []) = H1 at s1 e1 ⊢
        refine ⟨_, rfl, a, xs, rfl, SqL.of (s1 _ _ ha), for_it walk_enum (fun i σ H' => Same H H' ∧ ∃ (seen : List Str) (kvs : List (Key × V)) (v2 v3 : Option V), σ = [some (.ref a), some (.ref nd), v2, v3] ∧ H' nd = some (.dK kvs) ∧ SeenK seen kvs ∧ seen.length = i ∧ badAt 0 [] ds = badAt i seen (ds.drop i))
          ⟨s1, [], [], _, _, rfl, e1, ⟨fun z => rfl, Nat.le_refl _⟩, rfl, rfl⟩ (fun i σ H' _ h => SqL.of (h.1 _ _ ha)) ?_ ?_⟩
        · rintro i x σ H' H'' hi ⟨s2, seen, kvs, v2, v3, rfl, hk, sk, sl, hb⟩ ⟨tp, y1, y2, rfl, htp, rfl, hy1, hy2⟩
          injection hy1 with hy1
          subst hy1
          have i20 : i < 20 := by omega
          obtain ⟨d1, hd1, hD1⟩ := hall.get hy2
          have okd : Ok d1 := OkAll.mem ok (List.mem_of_getElem? hd1)
          have hdr : ds.drop i = d1 :: ds.drop (i + 1) := by
            obtain ⟨hlt, e1⟩ := List.getElem?_eq_some_iff.mp hd1
            rw [List.drop_eq_getElem_cons hlt, e1]
          rw [hdr, bad_step] at hb
          have s3 := Same.upd (o := .tup [V.int (i : Nat), y2]) htp
          have s03 := s2.trans s3
          refine ⟨tp, _, rfl, SqT.of upd_same, rfl, _, _, rfl, _, _, rfl, rfl, ?_⟩
          refine ⟨_, rfl, y2, d1, rfl, hD1.same s03, okd, fun H4 s4 => ⟨_, rfl, ?_⟩⟩
          have s04 := s03.trans s4
          have bad : (isWant d1 && !decide (nameD d1 ∈ seen)) = false → ∀ dd : Addr, H4 dd = none → E (.ref T.A.NoWants) (some dd) (upd H4 dd (.xd [("number", .int (i : Nat))])) := fun e dd hd => by
            rw [e] at hb
            have hb : badAt 0 [] ds = some (.int (i : Nat)) := hb
            exact kE _ hb dd _ (s04.trans (Same.upd hd)) (by
              cases q : H dd with
              | none => rfl
              | some o =>
                rw [s04 _ _ q] at hd
                cases hd) upd_same
          cases e : isWant d1 with
          | false =>
            refine iteT ⟨_, rfl, mkx T.X_NoWants (.inr (.inr ⟨_, rfl, ?_⟩)) (bad (by rw [e]; rfl))⟩
            exact Nat.lt_of_lt_of_le (show ((i : Nat) : Int).natAbs < 2 ^ 20 by omega) (by decide)
          | true =>
            obtain ⟨z, c, rfl, hz⟩ := isWant_shape e
            refine iteF ?_
            have hy4 := (hD1.same s04)
            cases hy4 with
            | tup hat hal =>
              cases hal with
              | cons h1 hal =>
                cases h1
                rename_i vs9
                obtain ⟨v9, rfl⟩ : ∃ v9, vs9 = [v9] := by
                  cases hal with
                  | cons h2 hal =>
                    cases hal
                    exact ⟨_, rfl⟩
                have hk4 := s4 _ _ (s3 _ _ hk)
                have vz : (valV kvs (Sum.inr z)).isSome = decide (z ∈ seen) := sk.1 z
                refine ⟨_, rfl, _, _, _, V.str z, rfl, rfl, SqT.of hat, rfl, _, rfl, nd, _, rfl, .inl ⟨_, Sum.inr z, .of hk4, rfl, rfl⟩, ?_⟩
                have bad : decide (z ∈ seen) = true → ∀ dd : Addr, H4 dd = none → E (.ref T.A.NoWants) (some dd) (upd H4 dd (.xd [("number", .int (i : Nat))])) := fun e9 => bad (by
                  rw [e]
                  show (true && !decide (z ∈ seen)) = false
                  rw [e9]
                  rfl)
                have go : decide (z ∈ seen) = false → badAt 0 [] ds = badAt (i + 1) (seen ++ [z]) (ds.drop (i + 1)) := fun e9 => by
                  rw [hb, e]
                  show (if (true && !decide (z ∈ seen)) = true then _ else _) = _
                  rw [e9]
                  rfl
                cases ev : valV kvs (Sum.inr z) with
                | some u =>
                  rw [ev] at vz
                  refine ⟨_, rfl, iteT ⟨_, rfl, mkx T.X_NoWants (.inr (.inr ⟨_, rfl, ?_⟩)) (bad vz.symm)⟩⟩
                  exact Nat.lt_of_lt_of_le (show ((i : Nat) : Int).natAbs < 2 ^ 20 by omega) (by decide)
                | none =>
                  rw [ev] at vz
                  refine ⟨_, rfl, iteF ⟨_, rfl, _, rfl, _, _, _, V.str z, rfl, rfl, SqT.of hat, rfl, nd, _, rfl, DPut.k (k := Sum.inr z) hk4 (small1000 (by have := sk.2; omega)), ?_, seen ++ [z], putK kvs (Sum.inr z) (.bl true), _, _, rfl, upd_same, sk.put, ?_, go vz.symm⟩⟩
                  · intro b o hbo
                    rw [upd_ne (ne_of_none hbo hn)]
                    exact s04 _ _ hbo
                  · rw [List.length_append, sl]
                    rfl
        · rintro σ H' ⟨s2, seen, kvs, v2, v3, rfl, hk, sk, sl, hb⟩
          rw [List.drop_of_length_le (by omega)] at hb
          exact k hb H' s2
      · exact ⟨_, rfl, iteT (mkx T.X_NoWants (.inl rfl) (no (if_neg (by omega))))⟩
    | _ => exact iteT (mkx T.X_NoWants (.inl rfl) (no rfl))
end
end Dear

namespace Dear
open PySem PySem.Spec PyProof.Rows L2
/-- a list's item at a drawn place -/
theorem pickN {H0 H : Hp} {xs : List V} {ds : List D} (hall : DtAll (New H0 H) xs ds) (ok : OkAll ds) {r : Int} (r0 : 0 ≤ r) (r1 : r < ds.length) : ∃ (v : V) (d : D), atI xs r = some v ∧ Dt (New H0 H) v d ∧ Ok d := by
  obtain ⟨v, hv, _, hr⟩ := at_lt (xs := xs) r0 (by rw [hall.length]; exact r1)
  obtain ⟨d, hd, h⟩ := hall.get hr
  exact ⟨v, d, hv, h, ok.mem (List.mem_of_getElem? hd)⟩
theorem okS {z : Str} (h : z.length ≤ 3000 := by decide +kernel) (a : Asc z := by decide +kernel) : Ok (.str z) := ⟨h, a⟩
theorem okI {i : Int} (h : i.natAbs < 2 ^ 200 := by decide) : Ok (.int i) := lt300 h
/-- a name and a count -/
structure NC (nm : List Nat) (c : Int) : Prop where
  l : ∀ x ∈ nm, x ∈ letters.cps.toList
  n : nm.length ≤ 8
  c0 : 0 ≤ c
  c9 : c ≤ 1000000000
theorem NC.okn {nm : List Nat} {c : Int} (h : NC nm c) : Ok (.str (txt nm)) := ⟨by rw [txt_length]; have := h.n; omega, fun x hx => by rw [txt_list] at hx; exact in_letters_asc (h.l x hx)⟩
theorem NC.okc {nm : List Nat} {c : Int} (h : NC nm c) : Ok (.int c) := by
  have h1 := h.c0
  have h2 := h.c9
  exact lt300 (Nat.lt_of_lt_of_le (show c.natAbs < 2 ^ 40 by omega) (by decide))
def spOdd : Sp := fun vs H Q _ => ∃ (l : Addr) (nm : List Nat) (c : Int), vs = [.ref l, .str (txt nm), .int c] ∧ Src H l ∧ NC nm c ∧
  ∀ (v : V) (d : D) (H' : Hp), But l H H' → Src H' l → Dt (New H H') v d → Ok d → Q v H'
theorem new_back {H H1 H2 : Hp} {l : Addr} (B : But l H H1) (S1 : Src H1 l) : Same (New H1 H2) (New H H2) := fun b o e => by
  obtain ⟨h1, h2⟩ := new_some e
  rw [new_at (B.none h1 (S1.ne h1))]
  exact h2
section
variable {P : Program} {w : World} {K : PySem.W.Frag} {mg : Str → Option Value} {base : Heap}
theorem o__law_odd (T : Txt K mg) : OkF P w K mg base CX0 2 "_law_odd" ["_law_pool_here", "_law_name_here", "_law_count"] spOdd := by
  have o__law_take := o__law_take (P := P) (w := w) (base := base) T
  refine T.f__law_odd.ok c__law_odd (fun vs H Q E h => ?_) (fun f cdv A outer s H vs Q E hr h => ?_)
  · obtain ⟨l, nm, c, rfl, _⟩ := h
    rfl
  · obtain ⟨l, nm, c, rfl, S, nc, k⟩ := h
    refine ⟨_, (pss_cons (ps_set (i := 3) c__law_odd.nd rfl (Or.inl rfl) (pe_c o__law_take hr (pa_cons (pv 0) (pa_cons pe_int pa_nil))))
(pss_cons (ps_set (i := 4) c__law_odd.nd rfl (Or.inl rfl) (pe_c o__law_take hr (pa_cons (pv 0) (pa_cons pe_int pa_nil))))
(pss_cons (ps_if (pt_cmpR op_eq (pv 4) pe_int (nomark _))
(pss_one (ps_ret (pe_tup (pa_cons (pe_ix (ix_list_k K) (pe_lst (pa_cons pe_str (pa_cons pe_str (pa_cons pe_str (pa_cons pe_str (pa_cons pe_str (pa_cons pe_str (pa_cons pe_non (pa_cons pe_int (pa_cons pe_bl (pa_cons (pe_lst (pa_cons (pv 1) pa_nil)) (pa_cons (pe_tup (pa_cons (pv 1) pa_nil)) (pa_cons pe_str pa_nil))))))))))))) (pv 3) (fun _ _ => rfl)) (pa_cons (pv 2) pa_nil)))))
pss_nil)
(pss_cons (ps_if (pt_cmpR op_eq (pv 4) pe_int (nomark _))
(pss_cons (ps_set (i := 5) c__law_odd.nd rfl (Or.inl rfl) (pe_lst (pa_cons (pe_un un_neg pe_int) (pa_cons (pe_op op_add (pe_op op_pow pe_int pe_int) pe_int) (pa_cons pe_bl (pa_cons pe_non (pa_cons pe_str (pa_cons (pe_lst (pa_cons (pv 2) pa_nil)) (pa_cons (pe_tup (pa_cons (pv 2) pa_nil)) (pa_cons (pe_op op_pow pe_int pe_int) (pa_cons pe_bl (pa_cons (pe_un un_neg (pe_op op_pow pe_int pe_int)) (pa_cons pe_dnewK (pa_cons (pe_op op_add (pe_op op_pow pe_int pe_int) pe_int) pa_nil))))))))))))))
(pss_one (ps_ret (pe_tup (pa_cons (pv 1) (pa_cons (pe_ix (ix_list_k K) (pv 5) (pv 3) (fun _ _ => rfl)) pa_nil))))))
pss_nil)
(pss_cons (ps_set (i := 5) c__law_odd.nd rfl (Or.inl rfl) (pe_lst (pa_cons pe_non (pa_cons (pv 1) (pa_cons (pv 2) (pa_cons (pe_lst (pa_cons (pv 1) (pa_cons (pv 2) pa_nil))) (pa_cons (pe_tup (pa_cons (pv 1) pa_nil)) (pa_cons (pe_tup (pa_cons (pv 1) (pa_cons (pv 2) (pa_cons pe_int pa_nil)))) (pa_cons (pe_tup pa_nil) (pa_cons pe_dnewK (pa_cons pe_bl (pa_cons (pe_tup (pa_cons (pv 2) (pa_cons (pv 1) pa_nil))) (pa_cons (pe_tup (pa_cons (pe_tup (pa_cons (pv 1) (pa_cons (pv 2) pa_nil))) pa_nil)) pa_nil)))))))))))))
(pss_cons (ps_expr (pe_bm PySem.F.plainAttrs_list PySem.F.slot_list_append PySem.F.type_list_append mt_append (pv 5) (pa_cons pe_str pa_nil)))
(pss_one (ps_ret (pe_ix (ix_list_k K) (pv 5) (pv 3) (fun _ _ => rfl)))))))))), ?_⟩
    refine ⟨_, rfl, l, 12, rfl, S, by decide, log_le 12 (by decide), fun r H1 r0 r1 B1 S1 => ?_⟩
    refine ⟨_, rfl, l, 3, rfl, S1, by decide, log_le 3 (by decide), fun y H2 y0 y1 B2 S2 => ?_⟩
    have B12 := B1.trans B2
    refine ⟨_, rfl, rfl, _, rfl, itd (fun _ => ?_) fun _ => ?_⟩
    · refine s_ret (s_tup (s_cons (s_op (s_lst ?_))))
      refine MkNA.go (by exact (mkna_cons (mkn_c fun _ => .str _) (mkna_cons (mkn_c fun _ => .str _) (mkna_cons (mkn_c fun _ => .str _) (mkna_cons (mkn_c fun _ => .str _) (mkna_cons (mkn_c fun _ => .str _) (mkna_cons (mkn_c fun _ => .str _) (mkna_cons (mkn_c fun _ => .non) (mkna_cons (mkn_c fun _ => .int _) (mkna_cons (mkn_c fun _ => .bl _) (mkna_cons (mkn_lst (mkna_cons (mkn_var rfl fun _ => by first | exact .int _ | exact .str _ | exact .bl _ | exact .non) mkna_nil)) (mkna_cons (mkn_tup (mkna_cons (mkn_var rfl fun _ => by first | exact .int _ | exact .str _ | exact .bl _ | exact .non) mkna_nil)) (mkna_cons (mkn_c fun _ => .str _) mkna_nil))))))))))))) fun vs H3 s3 d3 => ⟨sz_lit (by rw [d3.length]; exact Nat.le_of_ble_eq_true rfl), fun p hp => ⟨_, rfl, ?_⟩⟩
      obtain ⟨v, d, hv, hd, okd⟩ := pickN d3 ⟨okS, okS, okS, okS, okS, okS, trivial, okI, trivial, ⟨nc.okn, trivial⟩, ⟨nc.okn, trivial⟩, okS, trivial⟩ r0 r1
      refine ⟨_, _, _, v, rfl, rfl, SqL.of upd_same, hv, _, rfl, (by show 2 ≤ sizeLine; decide), fun q hq => ?_⟩
      have s4 := Same.upd (o := .lst vs) hp
      have s5 := Same.upd (o := .tup [v, .int c]) hq
      have s25 := (s3.trans s4).trans s5
      have nq : H2 q = none := same_none (s3.trans s4) hq
      refine k (.ref q) (.tup [d, .int c]) _ (B12.trans (.of s25)) (S2.same s25) (Dt.same (new_back B12 S2) (.tup (by rw [new_at nq]; exact upd_same) (.cons (hd.same (New.mono (s4.trans s5))) (.cons (.int c) .nil)))) ⟨okd, nc.okc, trivial⟩
    refine ⟨_, rfl, rfl, _, rfl, itd (fun _ => ?_) fun _ => ?_⟩
    · refine s_seq (s_set (s_lst ?_))
      refine MkNA.go (by exact (mkna_cons mkn_neg (mkna_cons (mkn_i fun _ _ q => ⟨_, _, rfl, rfl, ⟨by decide, by decide, by decide⟩, _, _, rfl, rfl,  q⟩) (mkna_cons (mkn_c fun _ => .bl _) (mkna_cons (mkn_c fun _ => .non) (mkna_cons (mkn_c fun _ => .str _) (mkna_cons (mkn_lst (mkna_cons (mkn_var rfl fun _ => by first | exact .int _ | exact .str _ | exact .bl _ | exact .non) mkna_nil)) (mkna_cons (mkn_tup (mkna_cons (mkn_var rfl fun _ => by first | exact .int _ | exact .str _ | exact .bl _ | exact .non) mkna_nil)) (mkna_cons (mkn_i fun _ _ q => ⟨_, _, rfl, rfl, ⟨by decide, by decide, by decide⟩,  q⟩) (mkna_cons (mkn_c fun _ => .bl _) (mkna_cons (mkn_i fun _ _ q => ⟨_, _, rfl, rfl, ⟨by decide, by decide, by decide⟩, _, rfl,  q⟩) (mkna_cons mkn_dnew (mkna_cons (mkn_i fun _ _ q => ⟨_, _, rfl, rfl, ⟨by decide, by decide, by decide⟩, _, _, rfl, rfl,  q⟩) mkna_nil))))))))))))) fun vs H3 s3 d3 => ⟨sz_lit (by rw [d3.length]; exact Nat.le_of_ble_eq_true rfl), fun p hp => ?_⟩
      obtain ⟨v, d, hv, hd, okd⟩ := pickN d3 ⟨okI, okI, trivial, trivial, okS, ⟨nc.okc, trivial⟩, ⟨nc.okc, trivial⟩, okI, trivial, okI, trivial, okI, trivial⟩ r0 r1
      refine ⟨_, rfl, _, rfl, _, rfl, _, _, _, v, rfl, rfl, SqL.of upd_same, hv, (by show 2 ≤ sizeLine; decide), fun q hq => ?_⟩
      have s4 := Same.upd (o := .lst vs) hp
      have s5 := Same.upd (o := .tup [.str (txt nm), v]) hq
      have s25 := (s3.trans s4).trans s5
      have nq : H2 q = none := same_none (s3.trans s4) hq
      refine k (.ref q) (.tup [.str (txt nm), d]) _ (B12.trans (.of s25)) (S2.same s25) (Dt.same (new_back B12 S2) (.tup (by rw [new_at nq]; exact upd_same) (.cons (.str _) (.cons (hd.same (New.mono (s4.trans s5))) .nil)))) ⟨nc.okn, okd, trivial⟩
    · refine s_nx ?_
      dsimp only
      refine s_seq (s_set (s_lst ?_))
      refine MkNA.go (by exact (mkna_cons (mkn_c fun _ => .non) (mkna_cons (mkn_var rfl fun _ => by first | exact .int _ | exact .str _ | exact .bl _ | exact .non) (mkna_cons (mkn_var rfl fun _ => by first | exact .int _ | exact .str _ | exact .bl _ | exact .non) (mkna_cons (mkn_lst (mkna_cons (mkn_var rfl fun _ => by first | exact .int _ | exact .str _ | exact .bl _ | exact .non) (mkna_cons (mkn_var rfl fun _ => by first | exact .int _ | exact .str _ | exact .bl _ | exact .non) mkna_nil))) (mkna_cons (mkn_tup (mkna_cons (mkn_var rfl fun _ => by first | exact .int _ | exact .str _ | exact .bl _ | exact .non) mkna_nil)) (mkna_cons (mkn_tup (mkna_cons (mkn_var rfl fun _ => by first | exact .int _ | exact .str _ | exact .bl _ | exact .non) (mkna_cons (mkn_var rfl fun _ => by first | exact .int _ | exact .str _ | exact .bl _ | exact .non) (mkna_cons (mkn_c fun _ => .int _) mkna_nil)))) (mkna_cons (mkn_tup mkna_nil) (mkna_cons mkn_dnew (mkna_cons (mkn_c fun _ => .bl _) (mkna_cons (mkn_tup (mkna_cons (mkn_var rfl fun _ => by first | exact .int _ | exact .str _ | exact .bl _ | exact .non) (mkna_cons (mkn_var rfl fun _ => by first | exact .int _ | exact .str _ | exact .bl _ | exact .non) mkna_nil))) (mkna_cons (mkn_tup (mkna_cons (mkn_tup (mkna_cons (mkn_var rfl fun _ => by first | exact .int _ | exact .str _ | exact .bl _ | exact .non) (mkna_cons (mkn_var rfl fun _ => by first | exact .int _ | exact .str _ | exact .bl _ | exact .non) mkna_nil))) mkna_nil)) mkna_nil)))))))))))) fun vs H3 s3 d3 => ⟨sz_lit (by rw [d3.length]; exact Nat.le_of_ble_eq_true rfl), fun p hp => ?_⟩
      have s4 := Same.upd (o := .lst vs) hp
      have ln : vs.length = 11 := d3.length
      refine ⟨_, rfl, .inl ⟨rfl, _, SqL.of upd_same⟩, p, _, _, rfl, rfl, upd_same, small1000 (by omega), ?_⟩
      rw [upd_upd]
      have s5 := Same.upd (o := .lst (vs ++ [.str ""])) hp
      obtain ⟨v, d, hv, hd, okd⟩ := pickN (d3.app (.cons (.str "") .nil)) ⟨trivial, nc.okn, nc.okc, ⟨nc.okn, nc.okc, trivial⟩, ⟨nc.okn, trivial⟩, ⟨nc.okn, nc.okc, okI, trivial⟩, trivial, trivial, trivial, ⟨nc.okc, nc.okn, trivial⟩, ⟨⟨nc.okn, nc.okc, trivial⟩, trivial⟩, okS, trivial⟩ r0 r1
      refine ⟨_, rfl, _, rfl, _, _, _, v, rfl, rfl, SqL.of upd_same, hv, ?_⟩
      exact k v d _ (B12.trans (.of (s3.trans s5))) (S2.same (s3.trans s5)) ((hd.same (New.mono s5)).same (new_back B12 S2)) okd
end
end Dear

namespace Dear
open PySem PySem.Spec PyProof.Rows L2
theorem wants_refs {H : Hp} : ∀ {ws : List (List Nat × Int)} {xs : List V}, DtAll H xs (ws.map wantD) → ∃ ps : List Addr, xs = ps.map V.ref ∧ Paired (fun p kv => H p = some (.tup [kV kv.1, kv.2])) ps (ws.map fun w => ((Sum.inr (txt w.1) : Key), V.int w.2))
  | [], _, .nil => ⟨[], rfl, .nil⟩
  | w :: ws, _, .cons h t => by
    obtain ⟨ps, e, r⟩ := wants_refs (ws := ws) t
    subst e
    cases h with
    | tup ha hall =>
      cases hall with
      | cons h1 hall =>
        cases hall with
        | cons h2 hall =>
          cases hall
          cases h1
          cases h2
          exact ⟨_ :: ps, rfl, .cons ha r⟩
section
variable {l : Addr} {σ : L2.St} {H : Hp} {K : PySem.W.Frag}
theorem mk_tupof {i : Nat} {p : Addr} {xs : List V} {ds : List D} {o : HO} (e : σ[i]? = some (some (.ref p))) (hp : H p = some (.lst xs)) (hd : DtAll (Off l H) xs ds) (hl : H l = some o) : Mk l σ (tCB (rTupOf K) (tCons (tVar i) tNil)) H (.tup ds) := fun H1 s Q q => by
  refine ⟨_, e, p, xs, rfl, .inl ⟨SqL.of (s _ _ hp), fun r hr => ?_⟩⟩
  have ne : r ≠ l := fun z => by
    subst z
    rw [s _ _ hl] at hr
    cases hr
  exact q (.ref r) _ (Same.upd hr) (.tup (by rw [off_ne ne]; exact upd_same) (hd.same (sOff (s.trans (Same.upd hr)))))
theorem mk_dictof {i : Nat} {p : Addr} {xs : List V} {ws : List (List Nat × Int)} {o : HO} (e : σ[i]? = some (some (.ref p))) (hp : H p = some (.lst xs)) (hd : DtAll H xs (ws.map wantD)) (hl : H l = some o) : Mk l σ (tCB (rDictP K) (tCons (tVar i) tNil)) H .dct := fun H1 s Q q => by
  obtain ⟨ps, e2, r⟩ := wants_refs hd
  subst e2
  refine ⟨_, e, p, ps, _, rfl, SqL.of (s _ _ hp), L2.Paired.mapP r fun p kv hk => SqT.of (s _ _ hk), fun t ht => ?_⟩
  have ne : t ≠ l := fun z => by
    subst z
    rw [s _ _ hl] at ht
    cases ht
  exact q (.ref t) _ (Same.upd ht) (.dct (by rw [off_ne ne]; exact upd_same))
end
theorem dt_rep {H : Hp} {v : V} {d : D} (h : Dt H v d) : ∀ n : Nat, DtAll H (List.replicate n [v]).flatten (List.replicate n d)
  | 0 => .nil
  | n + 1 => by
    rw [List.replicate_succ, List.replicate_succ, List.flatten_cons]
    exact .cons h (dt_rep h n)
theorem ok_rep {d : D} (h : Ok d) : ∀ n : Nat, OkAll (List.replicate n d)
  | 0 => trivial
  | n + 1 => ⟨h, ok_rep h n⟩
theorem pu_wants : ∀ {ws : List (List Nat × Int)}, PuAll (ws.map wantD)
  | [] => trivial
  | _ :: _ => ⟨⟨trivial, trivial, trivial⟩, pu_wants⟩
theorem ok_wants : ∀ {ws : List (List Nat × Int)}, (∀ w ∈ ws, WOk w) → OkAll (ws.map wantD)
  | [], _ => trivial
  | w :: _, h => ⟨(h w List.mem_cons_self).facts.1, ok_wants fun x hx => h x (List.mem_cons_of_mem _ hx)⟩
def spSpoiled : Sp := fun vs H Q _ => ∃ (l p : Addr) (xs : List V) (ws : List (List Nat × Int)), vs = [.ref l, .ref p] ∧ Src H l ∧ p ≠ l ∧ H p = some (.lst xs) ∧ DtAll H xs (ws.map wantD) ∧ WsOk ws ∧ 1 ≤ ws.length ∧ ws.length ≤ 20 ∧
  ∀ (v : V) (d : D) (H' : Hp), But l H H' → Src H' l → Dt (Off l H') v d → Ok d → Q v H'
def manyW (n : Nat) : List (List Nat × Int) := (List.range n).map fun k => (nameL k 7, (k : Int))
theorem manyW_ok (n : Nat) (h : n ≤ 1000) : ∀ w ∈ manyW n, WOk w := fun w hw => by
  obtain ⟨k, hk, rfl⟩ := List.mem_map.mp hw
  have hk := List.mem_range.mp hk
  obtain ⟨n1, n2, n3⟩ := name_of k 7
  exact ⟨n1, n2, n3, by show (0 : Int) ≤ (k : Int); omega, by show (k : Int) ≤ 1000000000; omega⟩
theorem Src.lst {H : Hp} {l : Addr} (S : Src H l) : ∃ xs, H l = Option.some (.lst xs) := by
  obtain ⟨n, z, e, _⟩ := S
  exact ⟨_, e⟩
theorem want_get {H : Hp} {xs : List V} {ws : List (List Nat × Int)} (h : DtAll H xs (ws.map wantD)) {i : Nat} {v : V} (e : xs[i]? = some v) : ∃ (w : List Nat × Int) (a : Addr), w ∈ ws ∧ v = .ref a ∧ H a = some (.tup [.str (txt w.1), .int w.2]) := by
  obtain ⟨d, hd, hD⟩ := h.get e
  rw [List.getElem?_map] at hd
  cases q : ws[i]? with
  | none =>
    rw [q] at hd
    cases hd
  | some w =>
    rw [q] at hd
    cases hd
    cases hD with
    | tup ha hall =>
      cases hall with
      | cons h1 hall =>
        cases hall with
        | cons h2 hall =>
          cases hall
          cases h1
          cases h2
          exact ⟨w, _, List.mem_of_getElem? q, rfl, ha⟩
/-- found[at] = an odd thing -/
theorem odd_fin {l q : Addr} {H1 H5 H6 : Hp} {ys : List V} {ds : List D} {an : Nat} {v : V} {d : D} {G : Prop} (B15 : But l H1 H5) (hq : H1 q = none) (nq : q ≠ l) (hq5 : H5 q = some (.lst ys)) (da : DtAll (Off q (Off l H5)) ys ds) (oka : OkAll ds) (an1 : an < ys.length)
    (B6 : But l H5 H6) (S6 : Src H6 l) (hv : Dt (New H5 H6) v d) (okv : Ok d) (y1 : 1 ≤ ys.length) (y20 : ys.length ≤ 20)
    (fin : ∀ (ys9 : List V) (ds9 : List D), But l H1 (upd H6 q (.lst (ys.set an v))) → Src (upd H6 q (.lst (ys.set an v))) l → (upd H6 q (.lst (ys.set an v))) q = some (.lst ys9) → DtAll (Off q (Off l (upd H6 q (.lst (ys.set an v))))) ys9 ds9 → OkAll ds9 → 1 ≤ ys9.length → ys9.length ≤ 20 → G) (S5 : Src H5 l) : G := by
  obtain ⟨o5, ho5⟩ := S5.some
  refine fin (ys.set an v) (ds.set an d) ?_ ?_ upd_same ?_ (oka.set okv an) (by rw [List.length_set]; exact y1) (by rw [List.length_set]; exact y20)
  · intro b o hb hbl
    rw [upd_ne (ne_of_none hb hq)]
    exact B6 _ _ (B15 _ _ hb hbl) hbl
  · obtain ⟨n9, z9, e9, r9⟩ := S6
    exact ⟨n9, z9, by rw [upd_ne (Ne.symm nq)]; exact e9, r9⟩
  · refine DtAll.set ?_ an (da.same fun b o e => ?_)
    · refine hv.same fun b o e => ?_
      obtain ⟨h1, h2⟩ := new_some e
      have n1 : b ≠ q := fun z => by
        rw [z, hq5] at h1
        cases h1
      have n2 : b ≠ l := fun z => by
        rw [z, ho5] at h1
        cases h1
      rw [off_ne n1, off_ne n2, upd_ne n1]
      exact h2
    · obtain ⟨n1, e1⟩ := off_some e
      obtain ⟨n2, e2⟩ := off_some e1
      rw [off_ne n1, off_ne n2, upd_ne n1]
      exact B6 _ _ e2 n2
section
variable {P : Program} {w : World} {K : PySem.W.Frag} {mg : Str → Option Value} {base : Heap}
theorem o__law_spoiled (T : Txt K mg) : OkF P w K mg base CX0 3 "_law_spoiled" ["_law_pool_here", "_law_wants_here"] spSpoiled := by
  have o__law_take := o__law_take (P := P) (w := w) (base := base) T
  have o__law_name := o__law_name (P := P) (w := w) (base := base) T
  have o__law_odd := o__law_odd (P := P) (w := w) (base := base) T
  refine T.f__law_spoiled.ok c__law_spoiled (fun vs H Q E h => ?_) (fun f cdv A outer s H vs Q E hr h => ?_)
  · obtain ⟨l, p, xs, ws, rfl, _⟩ := h
    rfl
  · obtain ⟨l, p, xs, ws, rfl, S, pl, hp, hd, wo, w1, w20, k⟩ := h
    have xl : xs.length = ws.length := by rw [hd.length, List.length_map]
    refine ⟨_, (pss_cons (ps_set (i := 2) c__law_spoiled.nd rfl (Or.inl rfl) (pe_c o__law_take hr (pa_cons (pv 0) (pa_cons pe_int pa_nil))))
(pss_cons (ps_if (pt_cmpR op_eq (pv 2) pe_int (nomark _))
(pss_cons (ps_set (i := 3) c__law_spoiled.nd rfl (Or.inl rfl) (pe_lst (pa_cons pe_non (pa_cons (pe_tup pa_nil) (pa_cons pe_dnewK (pa_cons pe_str (pa_cons pe_int (pa_cons (pe_lst pa_nil) (pa_cons (pe_callTy (call_tuple_of_k K) (by rfl) T.b_tuple (by decide +kernel) (pa_cons (pv 1) pa_nil)) (pa_cons pe_bl (pa_cons (pe_callTy (call_dictP_k K rfl) (by rfl) T.b_dict (by decide +kernel) (pa_cons (pv 1) pa_nil)) pa_nil)))))))))))
(pss_cons (ps_set (i := 3) c__law_spoiled.nd rfl (Or.inl rfl) (pe_op op_cat (pv 3) (pe_lst (pa_cons (pe_lc (own := [("_law_k", 9)]) (g := gName 9) (tt := tYes) (by rfl) c__law_spoiled.nd (pi_range1 (by rfl) T.b_range (pa_cons pe_int pa_nil)) (blkOk_by (own := [("_law_k", 9)]) (N := n__law_spoiled) (sc := defScope s__law_spoiled) (by decide +kernel)) (fun _ _ _ _ _ => (pg_name (i := 9) c__law_spoiled.nd rfl (Or.inl rfl))) (fun _ _ _ _ _ => pts_nil) (fun _ _ _ _ _ => (pe_tup (pa_cons (pe_c o__law_name hr (pa_cons (pv 9) (pa_cons pe_int pa_nil))) (pa_cons (pv 9) pa_nil))))) (pa_cons (pe_op op_rep (pe_lst (pa_cons (pe_ix (ix_list_k K) (pv 1) pe_int (fun _ _ => rfl)) pa_nil)) pe_int) (pa_cons (pe_op op_rep (pe_lst (pa_cons pe_non pa_nil)) pe_int) pa_nil))))))
(pss_one (ps_ret (pe_ix (ix_list_k K) (pv 3) (pe_c o__law_take hr (pa_cons (pv 0) (pa_cons pe_int pa_nil))) (fun _ _ => rfl))))))
pss_nil)
(pss_cons (ps_set (i := 4) c__law_spoiled.nd rfl (Or.inl rfl) (pe_callTy (call_list_of_k K) (by rfl) T.b_list (by decide +kernel) (pa_cons (pv 1) pa_nil)))
(pss_cons (ps_for PassesOwn.never rfl (pi_range1 (by rfl) T.b_range (pa_cons (pe_op op_add pe_int (pe_c o__law_take hr (pa_cons (pv 0) (pa_cons pe_int pa_nil)))) pa_nil)) (pg_name (i := 5) c__law_spoiled.nd rfl (Or.inl rfl))
(pss_cons (ps_set (i := 6) c__law_spoiled.nd rfl (Or.inl rfl) (pe_c o__law_take hr (pa_cons (pv 0) (pa_cons (pe_callB (call_len_seq_k K) (by rfl) T.b_len PySem.boot_len (pa_cons (pv 4) pa_nil)) pa_nil))))
(pss_cons (ps_asg (pe_ix (ix_list_k K) (pv 1) (pe_callB (call_min2 rfl) (by rfl) T.b_min (by decide +kernel) (pa_cons (pv 6) (pa_cons (pe_op op_sub (pe_callB (call_len_seq_k K) (by rfl) T.b_len PySem.boot_len (pa_cons (pv 1) pa_nil)) pe_int) pa_nil))) (fun _ _ => rfl)) (pg_tup_k K (n := 2) rfl (pgs_cons (pg_name (i := 7) c__law_spoiled.nd rfl (Or.inl rfl)) (pgs_cons (pg_name (i := 8) c__law_spoiled.nd rfl (Or.inl rfl)) pgs_nil))))
(pss_one (ps_if (PW.pt (pw_and (pt_cmpR op_lt (pv 2) pe_int (nomark _)) (pw_and1 (pt_cmpR op_lt (pe_callB (call_len_seq_k K) (by rfl) T.b_len PySem.boot_len (pa_cons (pv 4) pa_nil)) pe_int (nomark _)))))
(pss_one (ps_set (i := 4) c__law_spoiled.nd rfl (Or.inl rfl) (pe_op op_cat (pe_op op_cat (pe_slice (sl_list_k K) (pv 4) po_none (po_some (pv 6))) (pe_lst (pa_cons (pe_tup (pa_cons (pe_ix (ix_tup_k K) (pe_ix (ix_list_k K) (pv 1) (pe_c o__law_take hr (pa_cons (pv 0) (pa_cons (pe_callB (call_len_seq_k K) (by rfl) T.b_len PySem.boot_len (pa_cons (pv 1) pa_nil)) pa_nil))) (fun _ _ => rfl)) pe_int (fun _ _ => rfl)) (pa_cons (pv 8) pa_nil))) pa_nil))) (pe_slice (sl_list_k K) (pv 4) (po_some (pv 6)) po_none))))
(pss_one (ps_asg (pe_c o__law_odd hr (pa_cons (pv 0) (pa_cons (pv 7) (pa_cons (pv 8) pa_nil)))) (pg_sub (pv 4) (pv 6) set_list))))))))
(pss_one (ps_ret (pv 4))))))), ?_⟩
    refine ⟨_, rfl, l, 8, rfl, S, by decide, log_le 8 (by decide), fun way H1 y0 y1 B1 S1 => ?_⟩
    have hp1 := B1 _ _ hp pl
    have hd1 := hd.tp (TP.src B1 S) pu_wants
    obtain ⟨lx, hl1⟩ := S1.lst
    refine ⟨_, rfl, rfl, _, rfl, itd (fun _ => ?_) fun _ => ?_⟩
    · refine s_seq (s_set ?_)
      refine Mk.go (l := l) (by exact (mk_lst (mka_cons (mk_c .non) (mka_cons (mk_tup mka_nil hl1) (mka_cons (mk_dnew hl1) (mka_cons (mk_c (.str _)) (mka_cons (mk_c (.int _)) (mka_cons (mk_lst mka_nil hl1) (mka_cons (mk_tupof rfl hp1 (hd1.tp (TP.off hl1) pu_wants) hl1) (mka_cons (mk_c (.bl _)) (mka_cons (mk_dictof rfl hp1 hd1 hl1) mka_nil))))))))) hl1)) fun v2 H2 s2 d2 => ?_
      cases d2 with
      | lst ha2 hall2 =>
        rename_i a2 xs2
        obtain ⟨na2, ha2'⟩ := off_some ha2
        have xl2 : xs2.length = 9 := hall2.length
        have hp2 := s2 _ _ hp1
        refine ⟨_, rfl, 21, rfl, by decide, by decide, fun pD hD => lc_range (lo := 0) (n := 21) (fun i H' => Same H2 H' ∧ ∃ ys, H' pD = some (.lst ys) ∧ DtAll H' ys ((manyW i).map wantD)) ⟨Same.upd hD, [], upd_same, .nil⟩ ?_ ?_⟩
        · rintro i H' hi ⟨s3, ys, hy, hdy⟩
          rw [Int.zero_add]
          refine ⟨rfl, _, rfl, i, 7, rfl, by omega, by decide, fun H3 s4 => ⟨_, rfl, (by show 2 ≤ sizeLine; decide), fun q hq => ?_⟩⟩
          have s5 := Same.upd (o := .tup [.str (txt (nameL i 7)), .int (i : Int)]) hq
          have s45 := s4.trans s5
          have hy5 := s45 _ _ hy
          have nq : q ≠ pD := fun z => by
            subst z
            rw [s4 _ _ hy] at hq
            cases hq
          have yl : ys.length = i := by
            rw [hdy.length, List.length_map]
            unfold manyW
            rw [List.length_map, List.length_range]
          refine ⟨_, hy5, small1000 (by omega), ?_, ys ++ [.ref q], upd_same, ?_⟩
          · intro b o hb
            rw [upd_ne (ne_of_none hb hD)]
            exact s45 _ _ (s3 _ _ hb)
          · have em : manyW (i + 1) = manyW i ++ [(nameL i 7, (i : Int))] := by
              unfold manyW
              rw [List.range_succ, List.map_append]
              rfl
            rw [em, List.map_append]
            refine (DtAll.tp (TP.upd hy5) pu_wants (hdy.same s45)).app (.cons (.tup ?_ (.cons (.str _) (.cons (.int _) .nil))) .nil)
            rw [upd_ne nq]
            exact upd_same
        rintro H3 ⟨s3, ys, hy, hdy⟩
        have hp3 := s3 _ _ hp2
        obtain ⟨x0, hx0⟩ : ∃ x0, xs[0]? = some x0 := ⟨xs[0]'(by omega), List.getElem?_eq_getElem _⟩
        obtain ⟨w0, hw0, hD0⟩ := hd1.get hx0
        have s13 := s2.trans s3
        have hD0' := (hD0.tp (TP.off hl1) (by
          rw [List.getElem?_map] at hw0
          cases q : ws[0]? with
          | none => rw [q] at hw0; cases hw0
          | some w => rw [q] at hw0; cases hw0; exact ⟨trivial, trivial, trivial⟩)).same (sOff s13)
        have okw0 : Ok w0 := (ok_wants wo.all).mem (List.mem_of_getElem? hw0)
        refine ⟨_, rfl, _, _, _, _, rfl, rfl, SqL.of hp3, (show atI xs ((0 : Nat) : Int) = some x0 from atI_nat hx0), (by show 1 ≤ sizeLine; decide), fun q1 hq1 => ?_⟩
        have u1 := Same.upd (o := .lst [x0]) hq1
        refine ⟨q1, 21, _, rfl, rfl, upd_same, by decide, by decide, sz_lit (by show 1 * 21 ≤ 1000; decide), fun q2 hq2 => ?_⟩
        have u2 := Same.upd (o := .lst (List.replicate (21 : Int).toNat [x0]).flatten) hq2
        have e2 : (upd (upd H3 q1 (.lst [x0])) q2 (.lst (List.replicate (21 : Int).toNat [x0]).flatten)) q2 = some (.lst (List.replicate 21 [x0]).flatten) := upd_same
        have s35 := u1.trans u2
        generalize upd (upd H3 q1 (.lst [x0])) q2 (.lst (List.replicate (21 : Int).toNat [x0]).flatten) = H5 at e2 s35 ⊢
        clear u1 u2
        refine ⟨(by show 1 ≤ sizeLine; decide), fun q3 hq3 => ?_⟩
        have u3 := Same.upd (o := .lst [.non]) hq3
        refine ⟨q3, 30, _, rfl, rfl, upd_same, by decide, by decide, sz_lit (by show 1 * 30 ≤ 1000; decide), fun q4 hq4 => ?_⟩
        have u4 := Same.upd (o := .lst (List.replicate (30 : Int).toNat [V.non]).flatten) hq4
        have e4 : (upd (upd H5 q3 (.lst [.non])) q4 (.lst (List.replicate (30 : Int).toNat [V.non]).flatten)) q4 = some (.lst (List.replicate 30 [V.non]).flatten) := upd_same
        have s57 := u3.trans u4
        generalize upd (upd H5 q3 (.lst [.non])) q4 (.lst (List.replicate (30 : Int).toNat [V.non]).flatten) = H7 at e4 s57 ⊢
        clear u3 u4
        have s37 := s35.trans s57
        refine ⟨(by show 3 ≤ sizeLine; decide), fun q5 hq5 => ?_⟩
        have u5 := Same.upd (o := .lst [.ref pD, .ref q2, .ref q4]) hq5
        have s27 := s3.trans s37
        refine ⟨a2, q5, _, _, rfl, rfl, u5 _ _ (s27 _ _ ha2'), upd_same, sz_lit (by rw [xl2]; show 9 + 3 ≤ 1000; decide), fun q6 hq6 => ?_⟩
        have u6 := Same.upd (o := .lst (xs2 ++ [.ref pD, .ref q2, .ref q4])) hq6
        have s79 := u5.trans u6
        have e6 : (upd (upd H7 q5 (.lst [.ref pD, .ref q2, .ref q4])) q6 (.lst (xs2 ++ [.ref pD, .ref q2, .ref q4]))) q6 = some (.lst (xs2 ++ [.ref pD, .ref q2, .ref q4])) := upd_same
        generalize upd (upd H7 q5 (.lst [.ref pD, .ref q2, .ref q4])) q6 (.lst (xs2 ++ [.ref pD, .ref q2, .ref q4])) = H9 at e6 s79 ⊢
        have s29 := s27.trans s79
        have s19 := s2.trans s29
        have S9 := S1.same s19
        have hl9 := s19 _ _ hl1
        have nl : ∀ {q : Addr} {Hx : Hp} {o : HO}, Same H1 Hx → Hx q = none → q ≠ l := fun {q Hx o} sx hq z => by
          subst z
          rw [sx _ _ hl1] at hq
          cases hq
        have npD : pD ≠ l := nl (o := .dK []) s2 hD
        have nq2 : q2 ≠ l := fun z => by
          subst z
          have := s19 _ _ hl1
          rw [s57.trans s79 _ _ e2] at this
          obtain ⟨n9, z9, e9, _⟩ := S9
          rw [(s57.trans s79) _ _ e2] at e9
          have := congrArg (fun o => match o with | some (HO.lst ys) => ys.length | _ => 0) e9
          simp at this
        have nq4 : q4 ≠ l := fun z => by
          subst z
          obtain ⟨n9, z9, e9, _⟩ := S9
          rw [s79 _ _ e4] at e9
          have := congrArg (fun o => match o with | some (HO.lst ys) => ys.length | _ => 0) e9
          simp at this
        have nq6 : q6 ≠ l := fun z => by
          subst z
          obtain ⟨n9, z9, e9, _⟩ := S9
          rw [e6] at e9
          have := congrArg (fun o => match o with | some (HO.lst ys) => ys.length | _ => 0) e9
          simp [xl2] at this
        refine ⟨_, rfl, _, rfl, l, 12, rfl, S9, by decide, log_le 12 (by decide), fun r H10 r0 r1 B10 S10 => ?_⟩
        have all9 := (hall2.same (sOff s29)).app (.cons (.lst (a := pD) (by rw [off_ne npD]; exact s37.trans s79 _ _ hy) ((hdy.same (s37.trans s79)).tp (TP.off hl9) pu_wants)) (.cons (.lst (a := q2) (by rw [off_ne nq2]; exact s57.trans s79 _ _ e2) (dt_rep (hD0'.same (sOff (s37.trans s79))) 21)) (.cons (.lst (a := q4) (by rw [off_ne nq4]; exact s79 _ _ e4) (dt_rep .non 30)) .nil)))
        have dl : Dt (Off l H9) (.ref q6) (.lst _) := .lst (by rw [off_ne nq6]; exact e6) all9
        have okw := ok_wants wo.all
        obtain ⟨zs, v, d, g1, g2, g3, g4, _⟩ := pick dl ⟨trivial, trivial, trivial, okS, okI, trivial, okw, trivial, trivial, ok_wants (manyW_ok 21 (by decide)), ok_rep okw0 21, ok_rep (d := .non) trivial 30, trivial⟩ B10 r0 r1
        exact ⟨_, _, _, v, rfl, rfl, SqL.of g1, g2, k v d H10 ((B1.trans (.of s19)).trans B10) S10 g3 g4⟩
    · refine s_nx ?_
      dsimp only
      refine ⟨_, rfl, p, xs, rfl, .inl (SqL.of hp1), fun q hq => ?_⟩
      have nq : q ≠ l := S1.ne hq
      have u2 := Same.upd (o := .lst xs) hq
      have S2 := S1.same u2
      have hdl := (hd1.tp (TP.off hl1) pu_wants)
      have okw := ok_wants wo.all
      refine ⟨_, rfl, l, 2, rfl, S2, by decide, log_le 2 (by decide), fun r H3 r0 r1 B3 S3 => ⟨_, _, rfl, rfl, ?_⟩⟩
      have B13 : But l H1 H3 := (But.of u2).trans B3
      have hq3 : H3 q = some (.lst xs) := B3 _ _ upd_same nq
      have start : DtAll (Off q (Off l H3)) xs (ws.map wantD) := hdl.same fun b o e => by
        obtain ⟨n1, e1⟩ := off_some e
        rw [off_ne (ne_of_none e1 hq), off_ne n1]
        exact B13 _ _ e1 n1
      refine ⟨_, rfl, by omega, by omega, for_range (lo := 0) (n := (1 + r).toNat) (fun j σ H' => But l H1 H' ∧ Src H' l ∧ ∃ (q : Addr) (ys : List V) (ds : List D) (v3 v5 v6 v7 v8 v9 : Option V), H1 q = none ∧ q ≠ l ∧ H' q = some (.lst ys) ∧ DtAll (Off q (Off l H')) ys ds ∧ OkAll ds ∧ 1 ≤ ys.length ∧ ys.length ≤ 20 ∧ σ = [some (.ref l), some (.ref p), some (.int way), v3, some (.ref q), v5, v6, v7, v8, v9])
        ⟨B13, S3, q, xs, _, _, _, _, _, _, _, hq, nq, hq3, start, okw, by omega, by omega, rfl⟩ ?_ ?_⟩
      · rintro j σ H4 hj ⟨B4, S4, q, ys, ds, v3, v5, v6, v7, v8, v9, hq, nq, hq4, da, oka, y1, y20, rfl⟩
        have ylen : ys.length = ds.length := da.length
        refine ⟨_, rfl, _, rfl, _, _, rfl, .inl (SqL.of hq4), l, _, rfl, S4, by omega, log_le 20 (by omega), fun at_ H5 a0 a1 B5 S5 => ?_⟩
        obtain ⟨an, rfl⟩ := Int.eq_ofNat_of_zero_le a0
        have an1 : an < ys.length := by omega
        have B15 := B4.trans B5
        have hq5 := B5 _ _ hq4 nq
        have hp5 := B15 _ _ hp1 pl
        have hd5 := hd1.tp (TP.src B15 S1) pu_wants
        have da5 : DtAll (Off q (Off l H5)) ys ds := da.same fun b o e => by
          obtain ⟨n1, e1⟩ := off_some e
          obtain ⟨n2, e2⟩ := off_some e1
          rw [off_ne n1, off_ne n2]
          exact B5 _ _ e2 n2
        obtain ⟨x, hx, hm, hx2⟩ := at_lt (xs := xs) (r := if (xs.length : Int) - 1 < (an : Int) then (xs.length : Int) - 1 else (an : Int)) (by split <;> omega) (by split <;> omega)
        obtain ⟨wx, ax, hwx, rfl, hax⟩ := want_get hd5 hx2
        have okx := wo.all wx hwx
        have nc : NC wx.1 wx.2 := ⟨okx.l, okx.n8, okx.c0, okx.c9⟩
        refine ⟨_, rfl, _, rfl, _, rfl, _, _, rfl, .inl (SqL.of hp5), _, _, rfl, rfl, _, _, rfl, _, _, _, _, rfl, rfl, SqL.of hp5, hx, ?_⟩
        refine ⟨ax, _, rfl, SqT.of hax, rfl, _, _, rfl, _, _, rfl, rfl, ?_⟩
        refine ⟨_, rfl, _, _, rfl, rfl, _, rfl, itd (fun c1 => ?_) fun c1 => ?_⟩
        · refine ⟨_, rfl, _, _, rfl, .inl (SqL.of hq5), _, _, rfl, rfl, _, rfl, itd (fun c2 => ?_) fun c2 => ?_⟩
          · have c2 : (ys.length : Int) < 20 := c2
            refine ⟨_, rfl, _, rfl, _, rfl, _, _, rfl, SqL.of hq5, fun t1 ht1 => ?_⟩
            rw [cutV_pre]
            have u1 := Same.upd (o := .lst (ys.take an)) ht1
            have e1 : (upd H5 t1 (.lst (ys.take an))) t1 = some (.lst (ys.take an)) := upd_same
            generalize upd H5 t1 (.lst (ys.take an)) = H6 at u1 e1 ⊢
            have S6 := S5.same u1
            have nt1 : t1 ≠ l := S5.ne ht1
            refine ⟨_, rfl, _, rfl, _, rfl, _, _, rfl, .inl (SqL.of (u1 _ _ hp5)), l, _, rfl, S6, by omega, log_le 20 (by omega), fun r2 H7 r20 r21 B7 S7 => ?_⟩
            have hp7 := B7 _ _ (u1 _ _ hp5) pl
            have hd7 := (hd5.same u1).tp (TP.src B7 S6) pu_wants
            obtain ⟨x9, hx9, _, hx92⟩ := at_lt (xs := xs) r20 r21
            obtain ⟨w9, a9, hw9, rfl, ha9⟩ := want_get hd7 hx92
            have ok9 := wo.all w9 hw9
            refine ⟨_, _, _, _, rfl, rfl, SqL.of hp7, hx9, _, _, _, _, rfl, rfl, SqT.of ha9, rfl, _, rfl, (by show 2 ≤ sizeLine; decide), fun t2 ht2 => ?_⟩
            have u2 := Same.upd (o := .tup [.str (txt w9.1), .int wx.2]) ht2
            have e2 : (upd H7 t2 (.tup [.str (txt w9.1), .int wx.2])) t2 = some (.tup [.str (txt w9.1), .int wx.2]) := upd_same
            have nt2 : t2 ≠ l := S7.ne ht2
            generalize upd H7 t2 (.tup [.str (txt w9.1), .int wx.2]) = H8 at u2 e2 ⊢
            refine ⟨(by show 1 ≤ sizeLine; decide), fun t3 ht3 => ?_⟩
            have u3 := Same.upd (o := .lst [.ref t2]) ht3
            have e1' : (upd H8 t3 (.lst [.ref t2])) t1 = some (.lst (ys.take an)) := u3 _ _ (u2 _ _ (B7 _ _ e1 nt1))
            refine ⟨t1, t3, _, _, rfl, rfl, e1', upd_same, sz_lit ?_, fun t4 ht4 => ?_⟩
            · have := List.length_take_le an ys
              show (ys.take an).length + 1 ≤ 1000
              omega
            have u4 := Same.upd (o := .lst (ys.take an ++ [.ref t2])) ht4
            have e4 : (upd (upd H8 t3 (.lst [.ref t2])) t4 (.lst (ys.take an ++ [.ref t2]))) t4 = some (.lst (ys.take an ++ [.ref t2])) := upd_same
            have s8 := u3.trans u4
            generalize upd (upd H8 t3 (.lst [.ref t2])) t4 (.lst (ys.take an ++ [.ref t2])) = H10 at s8 e4 ⊢
            have s7 := u2.trans s8
            have hq10 := s7 _ _ (B7 _ _ (u1 _ _ hq5) nq)
            refine ⟨_, rfl, _, rfl, _, rfl, _, _, rfl, SqL.of hq10, fun t5 ht5 => ?_⟩
            rw [cutV_from]
            have u5 := Same.upd (o := .lst (ys.drop an)) ht5
            refine ⟨t4, t5, _, _, rfl, rfl, u5 _ _ e4, upd_same, sz_lit ?_, fun t6 ht6 => ?_⟩
            · have h1 := List.length_take_le an ys
              have h2 : (ys.drop an).length ≤ ys.length := by rw [List.length_drop]; omega
              rw [List.length_append]
              show (ys.take an).length + 1 + (ys.drop an).length ≤ 1000
              omega
            have u6 := Same.upd (o := .lst (ys.take an ++ [.ref t2] ++ ys.drop an)) ht6
            have s10 := u5.trans u6
            have e6 : (upd (upd H10 t5 (.lst (ys.drop an))) t6 (.lst (ys.take an ++ [.ref t2] ++ ys.drop an))) t6 = some (.lst (ys.take an ++ [.ref t2] ++ ys.drop an)) := upd_same
            have nt6 : (H10 t6 = none) := same_none u5 ht6
            generalize upd (upd H10 t5 (.lst (ys.drop an))) t6 (.lst (ys.take an ++ [.ref t2] ++ ys.drop an)) = H12 at s10 e6 ⊢
            have s712 := s7.trans s10
            have B512 : But l H5 H12 := ((But.of u1).trans B7).trans (.of s712)
            have S12 := S7.same s712
            have B112 := B15.trans B512
            have n6l : t6 ≠ l := (S7.same s7).ne nt6
            have n61 : H1 t6 = none := B15.none (((But.of u1).trans (B7.trans (.of s7))).none nt6 n6l) n6l
            have daN : DtAll (Off t6 (Off l H12)) ys ds := da5.same fun b o e => by
              obtain ⟨n1, e1⟩ := off_some e
              obtain ⟨n2, e2⟩ := off_some e1
              have e10 : H10 b = some o := s7 _ _ (B7 _ _ (u1 _ _ e2) n2)
              rw [off_ne (ne_of_none e10 nt6), off_ne n2]
              exact s10 _ _ e10
            have dN : Dt (Off t6 (Off l H12)) (.ref t2) (.tup [.str (txt w9.1), .int wx.2]) := by
              have e10 : H10 t2 = some (.tup [.str (txt w9.1), .int wx.2]) := s8 _ _ e2
              refine .tup ?_ (.cons (.str _) (.cons (.int _) .nil))
              rw [off_ne (ne_of_none e10 nt6), off_ne nt2]
              exact s10 _ _ e10
            have okN : Ok (.tup [.str (txt w9.1), .int wx.2]) := ⟨(NC.okn (c := 0) ⟨ok9.l, ok9.n8, by decide, by decide⟩), nc.okc, trivial⟩
            refine ⟨B112, S12, t6, _, ds.take an ++ [.tup [.str (txt w9.1), .int wx.2]] ++ ds.drop an, _, _, _, _, _, _, n61, n6l, e6, ((daN.take an).app (.cons dN .nil)).app (daN.drop an), (((oka.take an).app (es := [_]) ⟨okN, trivial⟩).app (oka.drop an)), ?_, ?_, rfl⟩
            · rw [List.length_append, List.length_append]
              show 1 ≤ _ + 1 + _
              omega
            · rw [List.length_append, List.length_append, List.length_take, List.length_drop]
              show _ + 1 + _ ≤ 20
              omega
          · refine ⟨_, rfl, _, rfl, _, rfl, l, wx.1, wx.2, rfl, S5, nc, fun v d H6 B6 S6 hv okv => ?_⟩
            have hq6 := B6 _ _ hq5 nq
            refine ⟨_, rfl, _, rfl, q, _, _, an, rfl, rfl, hq6, ?_, ?_⟩
            · exact ixN_lt (by omega) (by omega)
            exact odd_fin B15 hq nq hq5 da5 oka an1 B6 S6 hv okv y1 y20 (fun ys9 ds9 h1 h2 h3 h4 h5 h6 h7 => ⟨h1, h2, q, ys9, ds9, _, _, _, _, _, _, hq, nq, h3, h4, h5, h6, h7, rfl⟩) S5
        · refine ⟨_, rfl, _, rfl, _, rfl, l, wx.1, wx.2, rfl, S5, nc, fun v d H6 B6 S6 hv okv => ?_⟩
          have hq6 := B6 _ _ hq5 nq
          refine ⟨_, rfl, _, rfl, q, _, _, an, rfl, rfl, hq6, ?_, ?_⟩
          · exact ixN_lt (by omega) (by omega)
          exact odd_fin B15 hq nq hq5 da5 oka an1 B6 S6 hv okv y1 y20 (fun ys9 ds9 h1 h2 h3 h4 h5 h6 h7 => ⟨h1, h2, q, ys9, ds9, _, _, _, _, _, _, hq, nq, h3, h4, h5, h6, h7, rfl⟩) S5
      · rintro σ H4 ⟨B4, S4, q, ys, ds, v3, v5, v6, v7, v8, v9, hq, nq, hq4, da, oka, y1, y20, rfl⟩
        refine ⟨_, rfl, k (.ref q) (.lst ds) H4 (B1.trans B4) S4 (.lst (by rw [off_ne nq]; exact hq4) (da.same (Off.sub _ _))) oka⟩
end
end Dear

namespace Dear
open PySem PySem.Spec PyProof.Rows L2
/-- the numbers told -/
def badL (d : D) : List V := match wantsBad d with
  | none => []
  | some u => [u]
def spBad : Sp := fun vs H Q _ => ∃ (v : V) (d : D), vs = [v] ∧ Dt H v d ∧ Ok d ∧ ∀ (p : Addr) (H' : Hp), Same H H' → H' p = some (.lst (badL d)) → Q (.ref p) H'
theorem badAt_kind : ∀ {ds : List D} {seen : List Str} {i : Nat} {u : V}, badAt i seen ds = some u → i + ds.length ≤ 1000 → ∃ n : Nat, u = .int (n : Nat) ∧ n ≤ 1000
  | [], _, _, _, h, _ => by cases h
  | d :: r, seen, i, u, h, hl => by
    rw [bad_step] at h
    rw [List.length_cons] at hl
    split at h
    · exact badAt_kind h (by omega)
    · injection h with h
      exact ⟨i, h.symm, by omega⟩
theorem bad_kind {d : D} {u : V} (h : wantsBad d = some u) : u = .non ∨ ∃ n : Nat, u = .int (n : Nat) ∧ n ≤ 1000 := by
  cases d with
  | lst ds =>
    have h : (if 1 ≤ ds.length ∧ ds.length ≤ 20 then badAt 0 [] ds else some .non) = some u := h
    split at h
    · exact .inr (badAt_kind h (by omega))
    · injection h with h
      exact .inl h.symm
  | _ =>
    injection h with h
    exact .inl h.symm
section
variable {P : Program} {w : World} {K : PySem.W.Frag} {mg : Str → Option Value} {base : Heap}
theorem o__law_is_name (T : Txt K mg) : OkF P w K mg base CX0 1 "_law_is_name" ["_law_thing"] spNm := by
  refine T.f__law_is_name.ok c__law_is_name (fun vs H Q E h => ?_) (fun f cdv A outer s H vs Q E hr h => ?_)
  · obtain ⟨v, n, rfl, _⟩ := h
    rfl
  · obtain ⟨v, d, rfl, hI, ok, k⟩ := h
    refine ⟨_, (pss_cons (ps_if (PW.pt (pw_or (pt_not (pt_val (pe_callB (call_isi_k K) (by rfl) T.b_isinstance (by decide +kernel) (pa_cons (pv 0) (pa_cons (pe_bltn (v := .ty "str") (by rfl) T.b_str (by decide +kernel) rfl) pa_nil))))) (pw_or1 (pt_not (pt_chain op_lt op_lt pe_int (pe_callB call_len_str (by rfl) T.b_len PySem.boot_len (pa_cons (pv 0) pa_nil)) pe_int)))))
(pss_one (ps_ret pe_bl))
pss_nil)
(pss_one (ps_ret (pe_cmpR (op_eqD_k K hr.units) (pe_lc (own := [("_law_sign", 1)]) (g := gName 1) (by rfl) c__law_is_name.nd (pi_str (pv 0)) (blkOk_by (own := [("_law_sign", 1)]) (N := n__law_is_name) (sc := defScope s__law_is_name) (by decide +kernel)) (fun _ _ _ _ _ => (pg_name (i := 1) c__law_is_name.nd rfl (Or.inl rfl))) (fun _ _ _ _ _ => (pts_one (pt_cmpR op_notIn_sign (pv 1) pe_str rfl))) (fun _ _ _ _ _ => (pv 1))) (pe_lst pa_nil) (nomark _))))), ?_⟩
    refine ⟨_, rfl, _, _, _, _, _, rfl, .ty _, hI.ty, kit_ty (kd_str d), _, rfl, ?_⟩
    cases hI with
    | str z =>
      have hz : z.length ≤ sizeLine := Nat.le_trans ok.1 (by decide)
      refine iteF ⟨_, rfl, _, rfl, hz, _, _, rfl, rfl, _, rfl, itd (fun c1 => ?_) fun c1 => ?_⟩
      · refine ⟨_, _, rfl, rfl, _, rfl, itnd (fun c2 => ?_) fun c2 => ?_⟩
        · have e3 : isNm (.str z) = false := by
            show (decide (1 ≤ z.length ∧ z.length ≤ 8) && _) = false
            rw [decide_eq_false (by omega), Bool.false_and]
          rw [e3] at k
          exact k H (Same.refl H)
        · refine ⟨_, rfl, z, rfl, fun Dd hD => lc_it walk_str (fun i H' => ∃ ys : List Str, ys = ((z.cps.toList.take i).filter (fun c => !decide (c ∈ letters.cps.toList))).map (fun c => ⟨#[c]⟩) ∧ H' = upd H Dd (.lst (ys.map V.str))) ⟨[], rfl, rfl⟩ (fun _ _ _ _ => trivial) ?_ ?_⟩
          · rintro i x H' H'' hi ⟨ys, eb, rfl⟩ ⟨rfl, c, hc, rfl⟩
            have hc' : z.cps.toList[i]? = some c := by rw [Array.getElem?_toList]; exact hc
            have lz : ys.length ≤ z.cps.size := by
              rw [eb, List.length_map]
              refine Nat.le_trans (List.length_filter_le _ _) ?_
              rw [List.length_take]
              exact Nat.le_trans (Nat.min_le_left _ _) (Nat.le_of_lt hi)
            have lz2 : z.cps.size ≤ 8 := by
              have : z.cps.size = z.length := rfl
              omega
            refine ⟨rfl, _, rfl, _, _, rfl, rfl, _, rfl, itnd (fun (c3 : ¬ c ∈ letters.cps.toList) => ?_) fun (c3 : c ∈ letters.cps.toList) => ?_⟩
            · refine ⟨_, rfl, _, upd_same, ?_, ys ++ [⟨#[c]⟩], ?_, ?_⟩
              · rw [List.length_map]
                exact small1000 (by omega)
              · rw [eb, List.take_succ, hc']
                simp only [Option.toList_some, List.filter_append, List.map_append]
                rw [List.filter_cons_of_pos (by rw [decide_eq_false c3]; rfl)]
                rfl
              · rw [upd_upd, List.map_append]
                rfl
            · refine ⟨ys, ?_, rfl⟩
              rw [eb, List.take_succ, hc']
              simp only [Option.toList_some, List.filter_append, List.map_append]
              rw [List.filter_cons_of_neg (by rw [decide_eq_true c3]; exact Bool.false_ne_true)]
              simp
          · rintro H' ⟨ys, eb, rfl⟩
            refine ⟨(by show 0 ≤ sizeLine; decide), fun p hp => ?_⟩
            have npD : Dd ≠ p := fun e => by
              rw [← e, upd_same] at hp
              cases hp
            have ya : ∀ y ∈ ys, Asc y := by
              intro y hy
              rw [eb] at hy
              obtain ⟨c, hc, rfl⟩ := List.mem_map.mp hy
              exact asc_one (ok.2 c (List.mem_of_mem_take (List.mem_filter.mp hc).1))
            refine ⟨_, _, .lst (SqL.of (by rw [upd_ne npD]; exact upd_same)) (dp_strs ys), .lst (SqL.of upd_same) .nil, shaped_strs ya, shaped_nil, ?_⟩
            rw [eqv_nil]
            have e3 : isNm (.str z) = (ys.map PyData.str).isEmpty := by
              show (decide (1 ≤ z.length ∧ z.length ≤ 8) && _) = _
              rw [decide_eq_true (by omega), Bool.true_and, eb]
              have e4 : z.cps.toList.take z.cps.size = z.cps.toList := by rw [← Array.length_toList, List.take_length]
              rw [e4, List.map_map]
              exact all_empty _ _ _
            rw [e3] at k
            exact k _ ((Same.upd hD).trans (Same.upd hp))
      · have e3 : isNm (.str z) = false := by
          show (decide (1 ≤ z.length ∧ z.length ≤ 8) && _) = false
          rw [decide_eq_false (by omega), Bool.false_and]
        rw [e3] at k
        exact ⟨_, rfl, iteT (k H (Same.refl H))⟩
    | _ => exact iteT (k H (Same.refl H))
/-- a list of one thing, or none, made and told -/
theorem o__law_due (T : Txt K mg) : OkF P w K mg base CX0 2 "_law_due" ["_law_things"] spBad := by
  have o__law_is_name := o__law_is_name (P := P) (w := w) (base := base) T
  refine T.f__law_due.ok c__law_due (fun vs H Q E h => ?_) (fun f cdv A outer s H vs Q E hr h => ?_)
  · obtain ⟨v, d, rfl, _⟩ := h
    rfl
  · obtain ⟨v, d, rfl, hI, ok, k⟩ := h
    refine ⟨_, (pss_cons (ps_if (PW.pt (pw_or (pt_not (pt_val (pe_callB (call_isi_k K) (by rfl) T.b_isinstance (by decide +kernel) (pa_cons (pv 0) (pa_cons (pe_bltn (v := .ty "list") (by rfl) T.b_list (by decide +kernel) rfl) pa_nil))))) (pw_or1 (pt_not (pt_chain op_lt op_lt pe_int (pe_callB (call_len_seq_k K) (by rfl) T.b_len PySem.boot_len (pa_cons (pv 0) pa_nil)) pe_int)))))
(pss_one (ps_ret (pe_lst (pa_cons pe_non pa_nil))))
pss_nil)
(pss_cons (ps_set (i := 1) c__law_due.nd rfl (Or.inl rfl) (pe_lst pa_nil))
(pss_cons (ps_for PassesOwn.never rfl (pi_range1 (by rfl) T.b_range (pa_cons (pe_callB (call_len_seq_k K) (by rfl) T.b_len PySem.boot_len (pa_cons (pv 0) pa_nil)) pa_nil)) (pg_name (i := 2) c__law_due.nd rfl (Or.inl rfl))
(pss_cons (ps_set (i := 3) c__law_due.nd rfl (Or.inl rfl) (pe_ix (ix_list_k K) (pv 0) (pv 2) (fun _ _ => rfl)))
(pss_cons (ps_if (PW.pt (pw_or (pt_not (pt_val (pe_callB (call_isi_k K) (by rfl) T.b_isinstance (by decide +kernel) (pa_cons (pv 3) (pa_cons (pe_bltn (v := .ty "tuple") (by rfl) T.b_tuple (by decide +kernel) rfl) pa_nil))))) (pw_or (pt_cmpR op_ne (pe_callB (call_len_seq_k K) (by rfl) T.b_len PySem.boot_len (pa_cons (pv 3) pa_nil)) pe_int (nomark _)) (pw_or (pt_not (pt_val (pe_c o__law_is_name hr (pa_cons (pe_ix (ix_tup_k K) (pv 3) pe_int (fun _ _ => rfl)) pa_nil)))) (pw_or1 (pt_cmpR (op_in_seq_k K) (pe_ix (ix_tup_k K) (pv 3) pe_int (fun _ _ => rfl)) (pv 1) rfl))))))
(pss_one (ps_ret (pe_lst (pa_cons (pv 2) pa_nil))))
pss_nil)
(pss_cons (ps_if (PW.pt (pw_or (pt_not (pt_val (pe_callB (call_isi_k K) (by rfl) T.b_isinstance (by decide +kernel) (pa_cons (pe_ix (ix_tup_k K) (pv 3) pe_int (fun _ _ => rfl)) (pa_cons (pe_bltn (v := .ty "int") (by rfl) T.b_int (by decide +kernel) rfl) pa_nil))))) (pw_or (pt_val (pe_callB (call_isi_k K) (by rfl) T.b_isinstance (by decide +kernel) (pa_cons (pe_ix (ix_tup_k K) (pv 3) pe_int (fun _ _ => rfl)) (pa_cons (pe_bltn (v := .ty "bool") (by rfl) T.b_bool (by decide +kernel) rfl) pa_nil)))) (pw_or1 (pt_not (pt_chain op_le op_le pe_int (pe_ix (ix_tup_k K) (pv 3) pe_int (fun _ _ => rfl)) (pe_op op_pow pe_int pe_int)))))))
(pss_one (ps_ret (pe_lst (pa_cons (pv 2) pa_nil))))
pss_nil)
(pss_one (ps_expr (pe_bm PySem.F.plainAttrs_list PySem.F.slot_list_append PySem.F.type_list_append mt_append (pv 1) (pa_cons (pe_ix (ix_tup_k K) (pv 3) pe_int (fun _ _ => rfl)) pa_nil))))))))
(pss_one (ps_ret (pe_lst pa_nil)))))), ?_⟩
    refine ⟨_, rfl, _, _, _, _, _, rfl, .ty _, hI.ty, kit_ty (kd_list d), _, rfl, ?_⟩
    have tell : ∀ {u : V} {H1 : Hp} {p : Addr}, Same H H1 → wantsBad d = some u → H1 p = none → Q (.ref p) (upd H1 p (.lst [u])) := fun {u H1 p} s1 e hp => by
      refine k p _ (s1.trans (Same.upd hp)) ?_
      unfold badL
      rw [e]
      exact upd_same
    cases hI with
    | lst ha hall =>
      rename_i a xs ds
      have hl := hall.length
      refine iteF ⟨_, rfl, _, _, rfl, .inl (SqL.of ha), _, _, rfl, rfl, _, rfl, itd (fun c1 => ?_) fun c1 => ?_⟩
      · refine ⟨_, _, rfl, rfl, _, rfl, itnd (fun c2 => ?_) fun c2 => ?_⟩
        · exact ⟨(by show 1 ≤ sizeLine; decide), fun p hp => tell (Same.refl H) (if_neg (by omega)) hp⟩
        have e0 : wantsBad (.lst ds) = badAt 0 [] ds := if_pos (by omega)
        rw [e0] at tell
        refine ⟨(by show 0 ≤ sizeLine; decide), fun pS hS => ?_⟩
        have s1 := Same.upd (o := .lst []) hS
        have ln : ((xs.length : Nat) : Int).toNat = xs.length := rfl
        refine ⟨_, rfl, _, _, rfl, .inl (SqL.of (s1 _ _ ha)), _, rfl, by omega, by omega, for_range (lo := 0) (n := xs.length) (fun i σ H' => Same H H' ∧ ∃ (seen : List Str) (v2 v3 : Option V), σ = [some (.ref a), some (.ref pS), v2, v3] ∧ H' pS = some (.lst (seen.map V.str)) ∧ seen.length = i ∧ badAt 0 [] ds = badAt i seen (ds.drop i))
          ⟨s1, [], _, _, rfl, upd_same, rfl, rfl⟩ ?_ ?_⟩
        · rintro i σ H' hi ⟨s2, seen, v2, v3, rfl, hs, sl, hb⟩
          rw [Int.zero_add]
          have i20 : i < 20 := by omega
          obtain ⟨y, hy⟩ : ∃ y, xs[i]? = some y := ⟨xs[i], List.getElem?_eq_getElem hi⟩
          obtain ⟨d1, hd1, hD1⟩ := hall.get hy
          have okd : Ok d1 := OkAll.mem ok (List.mem_of_getElem? hd1)
          rw [drop_get hd1, bad_step] at hb
          have bad : (isWant d1 && !decide (nameD d1 ∈ seen)) = false → ∀ {H1 : Hp} {p : Addr}, Same H H1 → H1 p = none → Q (.ref p) (upd H1 p (.lst [.int (i : Nat)])) := fun e {H1 p} s9 hp => by
            rw [e] at hb
            exact tell s9 hb hp
          refine ⟨_, rfl, _, rfl, _, _, _, y, rfl, rfl, SqL.of (s2 _ _ ha), atI_nat hy, ?_⟩
          have hD2 := hD1.same s2
          refine ⟨_, rfl, _, _, _, _, _, rfl, .ty _, hD2.ty, kit_ty (kd_tuple d1), _, rfl, ?_⟩
          have one : ∀ {H1 : Hp}, (1 ≤ sizeLine) := fun {_} => by decide
          cases hD2 with
          | tup hat hal =>
            rename_i b us es
            refine iteF ⟨_, rfl, _, _, rfl, .inr (SqT.of hat), rfl, _, rfl, ?_⟩
            by_cases hl2 : us.length = 2
            · have e2 : decide (V.int ((us.length : Nat) : Int) = V.int 2) = true := by rw [hl2]; decide
              rw [e2]
              refine iteF ?_
              match us, es, hal, hl2 with
              | [x1, x2], _, .cons (d := f1) h1 (.cons (d := f2) h2 .nil), _ =>
                have okd : Ok f1 ∧ Ok f2 ∧ True := okd
                rw [isWant_two] at bad hb
                refine ⟨_, rfl, _, _, _, _, rfl, rfl, SqT.of hat, rfl, x1, f1, rfl, h1, okd.1, fun H3 s3 => ⟨_, rfl, ?_⟩⟩
                have s03 := s2.trans s3
                cases e1 : isNm f1 with
                | false =>
                  refine iteT ⟨_, rfl, one (H1 := H), fun p hp => bad ?_ s03 hp⟩
                  rw [e1]
                  rfl
                | true =>
                  rw [e1] at bad hb
                  have hat3 := s3 _ _ hat
                  have hs3 := s3 _ _ hs
                  obtain ⟨z, rfl⟩ : ∃ z, f1 = .str z := by
                    cases f1 with
                    | str z => exact ⟨z, rfl⟩
                    | _ => cases e1
                  have h1s := h1.same s3
                  cases h1s
                  refine iteF ⟨_, rfl, _, _, _, _, rfl, rfl, SqT.of hat3, rfl, _, rfl, _, _, rfl, .inl (SqL.of hs3), rfl, flat_str _, ?_⟩
                  rw [inV_strs]
                  have bad : (isInt f2 && cntOk f2 && !decide (z ∈ seen)) = false → ∀ {H1 : Hp} {p : Addr}, Same H H1 → H1 p = none → Q (.ref p) (upd H1 p (.lst [.int (i : Nat)])) := bad
                  by_cases hz : z ∈ seen
                  · rw [decide_eq_true hz] at bad ⊢
                    exact ⟨_, rfl, iteT ⟨_, rfl, one (H1 := H), fun p hp => bad (Bool.and_false _) s03 hp⟩⟩
                  rw [decide_eq_false hz] at bad ⊢
                  refine ⟨_, rfl, iteF ?_⟩
                  have bad : (isInt f2 && cntOk f2) = false → ∀ {H1 : Hp} {p : Addr}, Same H H1 → H1 p = none → Q (.ref p) (upd H1 p (.lst [.int (i : Nat)])) := fun e => bad (by rw [e]; rfl)
                  have h2s := h2.same s3
                  refine ⟨_, rfl, _, _, _, _, rfl, rfl, SqT.of hat3, rfl, _, _, _, _, _, rfl, .ty _, h2s.ty, kit_ty (kd_int f2), _, rfl, ?_⟩
                  cases h2s with
                  | int c =>
                    refine iteF ⟨_, rfl, _, _, _, _, rfl, rfl, SqT.of hat3, rfl, _, _, _, _, _, rfl, .ty _, (Dt.int (H := H3) c).ty, kit_ty (kd_bool (.int c)), _, rfl, iteF ?_⟩
                    refine ⟨_, rfl, _, _, _, _, rfl, rfl, SqT.of hat3, rfl, _, _, rfl, rfl, _, rfl, itd (fun c3 => ?_) fun c3 => ?_⟩
                    · refine ⟨_, _, rfl, rfl, ⟨by decide, by decide, by decide⟩, _, _, rfl, rfl, _, rfl, itnd (fun c4 => ?_) fun c4 => ?_⟩
                      · have c4 : ¬ c ≤ (10 : Int) ^ (9 : Int).toNat := c4
                        rw [show ((10 : Int) ^ (9 : Int).toNat) = 1000000000 by decide] at c4
                        exact ⟨_, rfl, one (H1 := H), fun p hp => bad (decide_eq_false fun q => c4 q.2) s03 hp⟩
                      · have c4 : c ≤ (10 : Int) ^ (9 : Int).toNat := c4
                        rw [show ((10 : Int) ^ (9 : Int).toNat) = 1000000000 by decide] at c4
                        refine ⟨_, rfl, .inl ⟨rfl, _, SqL.of hs3⟩, _, rfl, _, _, _, _, rfl, rfl, SqT.of hat3, rfl, pS, _, _, rfl, rfl, hs3, ?_, ?_, seen ++ [z], _, _, rfl, ?_, ?_, ?_⟩
                        · rw [List.length_map]
                          exact small1000 (by omega)
                        · intro b9 o9 hb9
                          rw [upd_ne (ne_of_none hb9 hS)]
                          exact s03 _ _ hb9
                        · rw [upd_same, List.map_append]
                          rfl
                        · rw [List.length_append, sl]
                          rfl
                        · rw [hb]
                          show (if (decide (0 ≤ c ∧ c ≤ 1000000000) && !decide (z ∈ seen)) = true then _ else _) = _
                          rw [decide_eq_true ⟨c3, c4⟩, decide_eq_false hz]
                          rfl
                    · exact ⟨_, rfl, iteT ⟨_, rfl, one (H1 := H), fun p hp => bad (decide_eq_false fun q => c3 q.1) s03 hp⟩⟩
                  | bl c =>
                    exact iteF ⟨_, rfl, _, _, _, _, rfl, rfl, SqT.of hat3, rfl, _, _, _, _, _, rfl, .ty _, (Dt.bl (H := H3) c).ty, kit_ty (kd_bool (.bl c)), _, rfl, iteT ⟨_, rfl, one (H1 := H), fun p hp => bad rfl s03 hp⟩⟩
                  | _ => exact iteT ⟨_, rfl, one (H1 := H), fun p hp => bad rfl s03 hp⟩
            · have e2 : decide (V.int ((us.length : Nat) : Int) = V.int 2) = false := decide_eq_false fun z => hl2 (by injection z with z; omega)
              rw [e2]
              refine iteT ⟨_, rfl, one (H1 := H), fun p hp => bad ?_ s2 hp⟩
              rw [isWant_len (by rw [← hal.length]; exact hl2)]
              rfl
          | _ => exact iteT ⟨_, rfl, one (H1 := H), fun p hp => bad rfl s2 hp⟩
        · rintro σ H' ⟨s2, seen, v2, v3, rfl, hs, sl, hb⟩
          rw [List.drop_of_length_le (by omega)] at hb
          refine ⟨(by show 0 ≤ sizeLine; decide), fun p hp => k p _ (s2.trans (Same.upd hp)) ?_⟩
          unfold badL
          rw [e0, hb]
          exact upd_same
      · exact ⟨_, rfl, iteT ⟨(by show 1 ≤ sizeLine; decide), fun p hp => tell (Same.refl H) (if_neg (by omega)) hp⟩⟩
    | _ => exact iteT ⟨(by show 1 ≤ sizeLine; decide), fun p hp => tell (Same.refl H) rfl hp⟩
end
end Dear

namespace Dear
open PySem PySem.Spec PyProof.Rows L2
theorem badL_some {d : D} {u : V} (h : wantsBad d = some u) : badL d = [u] := by
  unfold badL
  rw [h]
theorem badL_none {d : D} (h : wantsBad d = none) : badL d = [] := by
  unfold badL
  rw [h]
theorem badL_dt {d : D} : ∃ ds : List D, (∀ H, DtAll H (badL d) ds) ∧ OkAll ds ∧ NoDAll ds ∧ depAll ds ≤ 0 := by
  cases e : wantsBad d with
  | none =>
    rw [badL_none e]
    exact ⟨[], fun _ => .nil, trivial, trivial, Nat.le_refl _⟩
  | some u =>
    rw [badL_some e]
    rcases bad_kind e with rfl | ⟨n, rfl, hn⟩
    · exact ⟨[.non], fun _ => .cons .non .nil, ⟨trivial, trivial⟩, ⟨trivial, trivial⟩, Nat.le_refl _⟩
    · exact ⟨[.int n], fun _ => .cons (.int _) .nil, ⟨lt300 (Nat.lt_of_lt_of_le (show ((n : Nat) : Int).natAbs < 2 ^ 20 by omega) (by decide)), trivial⟩, ⟨trivial, trivial⟩, Nat.le_refl _⟩
section
variable {P : Program} {w : World} {K : PySem.W.Frag} {mg : Str → Option Value} {base : Heap}
theorem o__law_told (T : Txt K mg) : OkF P w K mg base CX0 5 "_law_told" ["_law_things"] spBad := by
  have o_look_at_wants := o_look_at_wants (P := P) (w := w) (base := base) T
  refine T.f__law_told.ok c__law_told (fun vs H Q E h => ?_) (fun f cdv A outer s H vs Q E hr h => ?_)
  · obtain ⟨v, d, rfl, _⟩ := h
    rfl
  · obtain ⟨v, d, rfl, hI, ok, k⟩ := h
    refine ⟨_, (pss_cons (ps_set (i := 1) c__law_told.nd rfl (Or.inl rfl) pe_non)
(pss_cons (ps_try_kept (i := 2) (j := 1) rfl rfl rfl c__law_told.nd rfl rfl (by decide) rfl rfl ⟨rfl, by decide, Or.inl T.C_DearError⟩ takes0 (fun W pn xe tk _ =>
(pss_one (ps_expr (pe_cx o_look_at_wants hr tk (pa_cons (pv 0) pa_nil))))))
(pss_cons (ps_if (pt_cmpR op_isN (pv 1) pe_non (nomark _))
(pss_one (ps_ret (pe_lst pa_nil)))
pss_nil)
(pss_cons (ps_if (PW.pt (pw_or (pt_not (pt_val (pe_callB (call_isY_k K) (by rfl) T.b_isinstance (by decide +kernel) (pa_cons (pv 1) (pa_cons (pe_glob (v := .ref T.A.NoWants) rfl T.C_NoWants rfl) pa_nil))))) (pw_or (pt_not (pt_val (pe_callB (call_isY_k K) (by rfl) T.b_isinstance (by decide +kernel) (pa_cons (pv 1) (pa_cons (pe_bltn (v := .ty "ValueError") (by rfl) T.b_ValueError (by decide +kernel) rfl) pa_nil))))) (pw_or1 (pt_val (pe_callB (call_isi_k K) (by rfl) T.b_isinstance (by decide +kernel) (pa_cons (pe_xfK K (pv 1)) (pa_cons (pe_bltn (v := .ty "bool") (by rfl) T.b_bool (by decide +kernel) rfl) pa_nil))))))))
(pss_one (ps_ret (pe_lst (pa_cons pe_str pa_nil))))
pss_nil)
(pss_cons (ps_if (pt_val (pe_callB (call_isYT_k K) (by rfl) T.b_isinstance (by decide +kernel) (pa_cons (pv 1) (pa_cons (pe_tup (pa_cons (pe_glob (v := .ref T.A.BadSign) rfl T.C_BadSign rfl) (pa_cons (pe_glob (v := .ref T.A.NoBook) rfl T.C_NoBook rfl) (pa_cons (pe_glob (v := .ref T.A.NoCount) rfl T.C_NoCount rfl) (pa_cons (pe_glob (v := .ref T.A.NoNumber) rfl T.C_NoNumber rfl) (pa_cons (pe_glob (v := .ref T.A.NoRow) rfl T.C_NoRow rfl) (pa_cons (pe_glob (v := .ref T.A.NoText) rfl T.C_NoText rfl) (pa_cons (pe_glob (v := .ref T.A.NoThing) rfl T.C_NoThing rfl) (pa_cons (pe_glob (v := .ref T.A.NoTongue) rfl T.C_NoTongue rfl) (pa_cons (pe_glob (v := .ref T.A.NoTree) rfl T.C_NoTree rfl) pa_nil)))))))))) pa_nil))))
(pss_one (ps_ret (pe_lst (pa_cons pe_str pa_nil))))
pss_nil)
(pss_cons (ps_if (pt_val (pe_callB (call_isYT_k K) (by rfl) T.b_isinstance (by decide +kernel) (pa_cons (pv 1) (pa_cons (pe_tup (pa_cons (pe_glob (v := .ref T.A.NoTurn) rfl T.C_NoTurn rfl) (pa_cons (pe_glob (v := .ref T.A.NoUndo) rfl T.C_NoUndo rfl) (pa_cons (pe_glob (v := .ref T.A.TooMany) rfl T.C_TooMany rfl) (pa_cons (pe_glob (v := .ref T.A.Unknown) rfl T.C_Unknown rfl) pa_nil))))) pa_nil))))
(pss_one (ps_ret (pe_lst (pa_cons pe_str pa_nil))))
pss_nil)
(pss_one (ps_ret (pe_lst (pa_cons (pe_xfK K (pv 1)) pa_nil)))))))))), ?_⟩
    refine ⟨_, rfl, v, d, rfl, hI, ok, fun e H1 s1 => ?_, fun u e dd H1 s1 hdd hx => ?_⟩
    · refine ⟨_, rfl, rfl, _, rfl, iteT ⟨(by show 0 ≤ sizeLine; decide), fun p hp => k p _ (s1.trans (Same.upd hp)) ?_⟩⟩
      rw [badL_none e]
      exact upd_same
    · refine ⟨true, T.m_NoWants, fun _ a ha => ?_, fun q => nomatch q⟩
      have u1 := Same.upd (o := ExK (.ref T.A.NoWants) (some dd) a) ha
      have eA : (upd H1 a (ExK (.ref T.A.NoWants) (some dd) a)) a = some (ExK (.ref T.A.NoWants) (some dd) a) := upd_same
      have s2 := s1.trans u1
      have hx2 := u1 _ _ hx
      generalize upd H1 a (ExK (.ref T.A.NoWants) (some dd) a) = H2 at eA s2 hx2 ⊢
      have at2 : ∀ {H' : Hp}, Same H2 H' → ExAt H' T.A.NoWants a := fun {H'} sx => .inr ⟨dd, _, sx _ _ eA, sx _ _ hx2⟩
      have lk : List.lookup ("number" : Str) [(("number" : Str), u)] = some u := by simp [List.lookup]
      refine ⟨_, rfl, rfl, _, rfl, iteF ?_⟩
      refine ⟨_, rfl, a, _, _, _, _, rfl, at2 (Same.refl _), T.X_NoWants.c, .own _, T.q_NoWants_NoWants, _, rfl, iteF ?_⟩
      refine ⟨_, rfl, a, _, _, _, _, rfl, at2 (Same.refl _), T.X_NoWants.c, .ty _, T.q_NoWants_ValueError, _, rfl, iteF ?_⟩
      obtain ⟨du, hdu, nb⟩ : ∃ du, Dt H2 u du ∧ isBl du = false := by
        rcases bad_kind e with rfl | ⟨n, rfl, _⟩
        · exact ⟨.non, .non, rfl⟩
        · exact ⟨.int _, .int _, rfl⟩
      have kb := kd_bool du
      rw [nb] at kb
      refine ⟨_, rfl, a, _, dd, _, u, rfl, eA, hx2, T.X_NoWants.c, T.X_NoWants.n, lk, _, _, _, _, _, rfl, .ty _, hdu.ty, kit_ty kb, _, rfl, iteF ?_⟩
      refine ⟨_, rfl, (by show 9 ≤ sizeLine; decide), fun p1 hp1 => ?_⟩
      have v1 := Same.upd (o := .tup [.ref T.A.BadSign, .ref T.A.NoBook, .ref T.A.NoCount, .ref T.A.NoNumber, .ref T.A.NoRow, .ref T.A.NoText, .ref T.A.NoThing, .ref T.A.NoTongue, .ref T.A.NoTree]) hp1
      refine ⟨a, _, p1, _, _, false, rfl, at2 v1, T.X_NoWants.c, upd_same, cls_all (cs := [_, _, _, _, _, _, _, _, _]), kit_none ?_, _, rfl, iteF ?_⟩
      · intro x hx
        simp only [List.map_cons, List.map_nil, List.mem_cons, List.not_mem_nil, or_false] at hx
        rcases hx with rfl | rfl | rfl | rfl | rfl | rfl | rfl | rfl | rfl
        · exact T.q_NoWants_BadSign
        · exact T.q_NoWants_NoBook
        · exact T.q_NoWants_NoCount
        · exact T.q_NoWants_NoNumber
        · exact T.q_NoWants_NoRow
        · exact T.q_NoWants_NoText
        · exact T.q_NoWants_NoThing
        · exact T.q_NoWants_NoTongue
        · exact T.q_NoWants_NoTree
      refine ⟨_, rfl, (by show 4 ≤ sizeLine; decide), fun p2 hp2 => ?_⟩
      have v2 := v1.trans (Same.upd (o := .tup [.ref T.A.NoTurn, .ref T.A.NoUndo, .ref T.A.TooMany, .ref T.A.Unknown]) hp2)
      refine ⟨a, _, p2, _, _, false, rfl, at2 v2, T.X_NoWants.c, upd_same, cls_all (cs := [_, _, _, _]), kit_none ?_, _, rfl, iteF ?_⟩
      · intro x hx
        simp only [List.map_cons, List.map_nil, List.mem_cons, List.not_mem_nil, or_false] at hx
        rcases hx with rfl | rfl | rfl | rfl
        · exact T.q_NoWants_NoTurn
        · exact T.q_NoWants_NoUndo
        · exact T.q_NoWants_TooMany
        · exact T.q_NoWants_Unknown
      refine ⟨_, rfl, a, _, dd, _, u, rfl, v2 _ _ eA, v2 _ _ hx2, T.X_NoWants.c, T.X_NoWants.n, lk, (by show 1 ≤ sizeLine; decide), fun p hp => k p _ ((s2.trans v2).trans (Same.upd hp)) ?_⟩
      rw [badL_some e]
      exact upd_same
theorem ok_law (T : Txt K mg) {f : Addr} {fd : FuncData} (F : Fun K "law" "law" s_law f fd) : FnOk P w K mg base CX0 7 f fd ["_law_script"] (spLaw K) := by
  have o__law_pool := o__law_pool (P := P) (w := w) (base := base) T
  have o__law_take := o__law_take (P := P) (w := w) (base := base) T
  have o__law_wants := o__law_wants (P := P) (w := w) (base := base) T
  have o__law_spoiled := o__law_spoiled (P := P) (w := w) (base := base) T
  have o__law_told := o__law_told (P := P) (w := w) (base := base) T
  have o__law_due := o__law_due (P := P) (w := w) (base := base) T
  have o_look_at_wants := o_look_at_wants (P := P) (w := w) (base := base) T
  refine F.ok c_law (fun vs H Q E h => ?_) (fun cdv A outer s H vs Q E hr h => ?_)
  · obtain ⟨a, ns, rfl, _⟩ := h
    rfl
  · obtain ⟨a, ns, rfl, hS, hlen, k⟩ := h
    refine ⟨_, (pss_cons (ps_for PassesOwn.never rfl (pi_range1 (by rfl) T.b_range (pa_cons (pe_callB (call_max2 rfl) (by rfl) T.b_max (by decide +kernel) (pa_cons pe_int (pa_cons (pe_callB (call_min2 rfl) (by rfl) T.b_min (by decide +kernel) (pa_cons (pe_callB (call_len_seq_k K) (by rfl) T.b_len PySem.boot_len (pa_cons (pv 0) pa_nil)) (pa_cons pe_int pa_nil))) pa_nil))) pa_nil)) (pg_name (i := 1) c_law.nd rfl (Or.inl rfl))
(pss_cons (ps_set (i := 2) c_law.nd rfl (Or.inl rfl) (pe_c o__law_pool hr (pa_cons (pv 0) (pa_cons (pv 1) pa_nil))))
(pss_cons (ps_set (i := 3) c_law.nd rfl (Or.inl rfl) (pe_c o__law_wants hr (pa_cons (pv 2) (pa_cons (pe_op op_add pe_int (pe_c o__law_take hr (pa_cons (pv 2) (pa_cons pe_int pa_nil)))) pa_nil))))
(pss_cons (ps_set (i := 4) c_law.nd rfl (Or.inl rfl) (pe_callTy (call_list_of_k K) (by rfl) T.b_list (by decide +kernel) (pa_cons (pv 3) pa_nil)))
(pss_cons (ps_set (i := 5) c_law.nd rfl (Or.inl rfl) (pe_c o__law_spoiled hr (pa_cons (pv 2) (pa_cons (pv 3) pa_nil))))
(pss_cons (ps_if (PW.pt (pw_or (pt_cmpR op_notN (pe_cx o_look_at_wants hr takes0 (pa_cons (pv 3) pa_nil)) pe_non (nomark _)) (pw_or1 (pt_cmpR (op_neD_k K hr.units) (pe_c o__law_told hr (pa_cons (pv 5) pa_nil)) (pe_c o__law_due hr (pa_cons (pv 5) pa_nil)) (nomark _)))))
(pss_one (ps_ret pe_bl))
pss_nil)
(pss_one (ps_if (PW.pt (pw_or (pt_cmpR op_notN (pe_cx o_look_at_wants hr takes0 (pa_cons (pv 3) pa_nil)) pe_non (nomark _)) (pw_or1 (pt_cmpR (op_neD_k K hr.units) (pv 3) (pv 4) (nomark _)))))
(pss_one (ps_ret pe_bl))
pss_nil))))))))
(pss_one (ps_ret pe_bl))), ?_⟩
    refine ⟨_, rfl, _, _, rfl, .inl hS, _, _, rfl, _, _, rfl, _, rfl, ?_, ?_, for_range (lo := 0) (fun i σ H' => Same H H' ∧ ∃ v1 v2 v3 v4 v5, σ = [some (.ref a), v1, v2, v3, v4, v5]) ⟨.refl _, _, _, _, _, _, rfl⟩ ?_ ?_⟩
    · (repeat' split) <;> omega
    · (repeat' split) <;> omega
    · rintro i σ H1 hi ⟨s1, v1, v2, v3, v4, v5, rfl⟩
      have i63 : i < 63 := Nat.lt_of_lt_of_le hi (by (repeat' split) <;> omega)
      rw [Int.zero_add]
      refine ⟨_, rfl, _, rfl, a, ns, _, rfl, s1.seq hS, by omega, by omega, fun l H2 hl s2 S2 => ?_⟩
      refine ⟨_, rfl, _, rfl, l, 20, rfl, S2, by decide, log_le 20 (by decide), fun m H3 m0 m1 B3 S3 => ⟨_, _, rfl, rfl, ?_⟩⟩
      refine ⟨l, _, rfl, S3, by omega, by omega, fun p xs ws H4 hp npl B4 S4 hx hd wo wl => ?_⟩
      have B24 := B3.trans B4
      have wl1 : 1 ≤ ws.length := by omega
      have wl2 : ws.length ≤ 20 := by omega
      refine ⟨_, rfl, p, xs, rfl, .inl (SqL.of hx), fun q hq => ?_⟩
      have u5 := Same.upd (o := .lst xs) hq
      have nql : q ≠ l := S4.ne hq
      have e5 : (upd H4 q (.lst xs)) q = some (.lst xs) := upd_same
      have hx5 := u5 _ _ hx
      have hd5 := hd.same u5
      have S5 := S4.same u5
      generalize upd H4 q (.lst xs) = H5 at u5 e5 hx5 hd5 S5 ⊢
      refine ⟨_, rfl, _, rfl, l, p, xs, ws, rfl, S5, npl, hx5, hd5, wo, wl1, wl2, fun v d H6 B6 S6 hv okv => ?_⟩
      have hx6 := B6 _ _ hx5 npl
      have e6 := B6 _ _ e5 nql
      have hd6 := hd5.tp (TP.src B6 S5) pu_wants
      have B26 := (B24.trans (.of u5)).trans B6
      have s16 : Same H1 H6 := But.same0 s2 hl B26
      obtain ⟨w1, w2, w3⟩ := wants_facts wo.all
      have gd := wants_good wo wl1 wl2
      refine ⟨_, rfl, .ref p, _, rfl, .lst hx6 hd6, w1, fun _ H7 s7 => ?_, fun u hu => by rw [gd] at hu; cases hu⟩
      refine ⟨rfl, _, rfl, iteF ?_⟩
      have hv7 := hv.on.same s7
      refine ⟨_, rfl, v, d, rfl, hv7, okv, fun pT H8 s8 eT => ⟨_, rfl, v, d, rfl, hv7.same s8, okv, fun pD H9 s9 eD => ?_⟩⟩
      obtain ⟨ds, hds, okds, nods, deps⟩ := badL_dt (d := d)
      have sh : SeqAt.shaped (py (.lst ds)) = true := shaped_py (d := .lst ds) okds nods (by show depAll ds + 1 ≤ 64; omega)
      refine ⟨_, _, (Dt.lst (s9 _ _ eT) (hds _)).dp (d := .lst ds) nods, (Dt.lst eD (hds _)).dp (d := .lst ds) nods, sh, sh, ?_⟩
      rw [eqv_same sh]
      refine ⟨_, rfl, iteF ?_⟩
      have s79 := s8.trans s9
      have s69 := s7.trans s79
      refine ⟨_, rfl, .ref p, _, rfl, .lst (s69 _ _ hx6) (hd6.same s69), w1, fun _ H10 s10 => ?_, fun u hu => by rw [gd] at hu; cases hu⟩
      refine ⟨rfl, _, rfl, iteF ?_⟩
      have s610 := s69.trans s10
      have shw := shaped_py w1 w2 w3
      refine ⟨_, rfl, _, rfl, _, _, (Dt.lst (s610 _ _ hx6) (hd6.same s610)).dp w2, (Dt.lst (s610 _ _ e6) (hd6.same s610)).dp w2, shw, shw, ?_⟩
      rw [eqv_same shw]
      exact ⟨_, rfl, iteF ⟨(s1.trans s16).trans s610, _, _, _, _, _, rfl⟩⟩
    · rintro σ H1 ⟨s1, v1, v2, v3, v4, v5, rfl⟩
      exact k _
end
end Dear

namespace Dear
open PySem PySem.Spec PyProof.Rows L2
theorem walk {l : PySem.W.OpenLaw} {q : Program} {loose : List Str} {XP : (Str → Option Value) → Heap → Prop} {YP : World → Heap → Prop} {d : DefRec} {K : Params → PySem.W.Frag} (hn : l.most = some 63) (hdf : d.params.defaults = [])
    (hY : ∀ (w : World) (h : Heap), YP w h → (K w.params).In h)
    (F : ∀ (w : World) (mg : Str → Option Value) (fa : Addr) (h : Heap), (K w.params).In h → h.Ns mainGlobals mg → mg d.name = some (.ref fa) →
      ∃ fd : FuncData, (∀ (s : Shared) (u : Value), BindsTo s fd ⟨[u], []⟩ [("_law_script", u)]) ∧ ∀ base : Heap, (K w.params).In base → base.Ns mainGlobals mg → FnOk l.prog w (K w.params) mg base CX0 20 fa fd ["_law_script"] (spLaw (K w.params))) :
    PySem.W.WalkO q loose XP YP l.row.toRowW d [] (fun f vs => PySem.call f vs) :=
  L2.walk_of (n := 63) (k := 20) (x := "_law_script") (CX := fun _ => CX0) (sp := fun w => spLaw (K w.params)) hn (by decide) hdf ⟨rfl, by decide, by decide⟩ hY F (fun _ _ a ns hl _ hS => ⟨a, ns, rfl, hS, hl, fun _ => rfl⟩) fun _ _ _ _ _ z => z
theorem fin {l : PySem.W.OpenLaw} {w : World} {K : PySem.W.Frag} {h : Heap} {mg : Str → Option Value} {fa : Addr} (X : K.In h) (G : h.Ns mainGlobals mg) (hfa : mg "law" = some (.ref fa)) (T : Txt K mg) :
    ∃ fd : FuncData, (∀ (s : Shared) (v : Value), BindsTo s fd ⟨[v], []⟩ [("_law_script", v)]) ∧ ∀ base : Heap, K.In base → base.Ns mainGlobals mg → FnOk l.prog w K mg base CX0 20 fa fd ["_law_script"] (spLaw K) := by
  obtain ⟨f, fd, hm, F, hb⟩ := id T.f_law
  have e := hfa.symm.trans hm
  cases e
  refine ⟨fd, fun s v => ?_, fun base _ _ => (ok_law T F).mono (by decide)⟩
  obtain ⟨oc, od, kV, doc, pm, an, cdv, ct, osl, rfl, lk, hcd⟩ := F.ex
  exact .of_eq rfl
end Dear

open PySem PySem.W PyProof.Rows
set_option maxRecDepth 100000 in
set_option maxHeartbeats 0 in
theorem PySem.Challenge.cw_dearsigns_k10_wants_and_none_holds : PySem.Challenge.rw_dearsigns_k10_wants_and_none.Holds := by
  w_on; o_law; k_head; (case hw => w_witness2)
  k_fill
  refine Dear.walk (l := PySem.Challenge.rw_dearsigns_k10_wants_and_none) rfl rfl (fun w h Y => PySem.W.kIn_of Y) ?F
  case F =>
    intro w mg fa h KX G hmg
    refine Dear.fin KX G hmg ?T
    case T =>
      refine' Dear.txt_mk KX G ?g_DearError ?i_DearError ?t_DearError ?g_NoNumber ?i_NoNumber ?t_NoNumber ?g_NoBook ?i_NoBook ?t_NoBook ?g_NoTree ?i_NoTree ?t_NoTree ?g_TooMany ?i_TooMany ?t_TooMany ?g_NoCount ?i_NoCount ?t_NoCount ?g_NoUndo ?i_NoUndo ?t_NoUndo ?g_NoTurn ?i_NoTurn ?t_NoTurn ?g_NoRow ?i_NoRow ?t_NoRow ?g_Unknown ?i_Unknown ?t_Unknown ?g_NoTongue ?i_NoTongue ?t_NoTongue ?g_NoWants ?i_NoWants ?t_NoWants ?g_NoThing ?i_NoThing ?t_NoThing ?g_BadSign ?i_BadSign ?t_BadSign ?g_NoText ?i_NoText ?t_NoText ?b_DearError ?d1 ?d2 ?d3 ?xl_NoWants ?sa_NoWants ?x2_NoWants ?x3_NoWants ?x4_NoWants ?x5_NoWants ?x6_NoWants ?x7_NoWants ?x8_NoWants ?x9_NoWants ?x10_NoWants ?x11_NoWants ?fn_NoWants ?i1_NoWants ?i2_NoWants ?i3_NoWants ?i4_NoWants ?i5_NoWants ?q_NoWants_DearError ?n_NoWants_DearError ?q_NoWants_NoNumber ?n_NoWants_NoNumber ?q_NoWants_NoBook ?n_NoWants_NoBook ?q_NoWants_NoTree ?n_NoWants_NoTree ?q_NoWants_TooMany ?n_NoWants_TooMany ?q_NoWants_NoCount ?n_NoWants_NoCount ?q_NoWants_NoUndo ?n_NoWants_NoUndo ?q_NoWants_NoTurn ?n_NoWants_NoTurn ?q_NoWants_NoRow ?n_NoWants_NoRow ?q_NoWants_Unknown ?n_NoWants_Unknown ?q_NoWants_NoTongue ?n_NoWants_NoTongue ?q_NoWants_NoWants ?q_NoWants_NoThing ?n_NoWants_NoThing ?q_NoWants_BadSign ?n_NoWants_BadSign ?q_NoWants_NoText ?n_NoWants_NoText ?q_NoWants_ValueError ?a1 ?l1 ?c1 ?k1 ?a2 ?l2 ?c2 ?k2 ?a3 ?l3 ?c3 ?k3 ?a4 ?l4 ?c4 ?k4 ?a5 ?l5 ?c5 ?k5 ?a6 ?l6 ?c6 ?k6 ?a7 ?l7 ?c7 ?k7 ?a8 ?l8 ?c8 ?k8 ?a9 ?l9 ?c9 ?k9 ?a10 ?l10 ?c10 ?k10 ?a11 ?l11 ?c11 ?k11 ?a12 ?l12 ?c12 ?k12 ?a13 ?l13 ?c13 ?k13 ?a14 ?l14 ?c14 ?k14 ?a15 ?a16 ?a17 ?a18 ?a19 ?a20 ?a21 ?a22 ?a23 ?a24 ?a25 ?a26 ?a27 ?a28 ?a29 ?a30 ?a31 ?a32
      (case g_DearError => k_is); (case i_DearError => k_is); (case t_DearError => k_is); (case g_NoNumber => k_is); (case i_NoNumber => k_is); (case t_NoNumber => k_is); (case g_NoBook => k_is); (case i_NoBook => k_is)
      (case t_NoBook => k_is); (case g_NoTree => k_is); (case i_NoTree => k_is); (case t_NoTree => k_is); (case g_TooMany => k_is); (case i_TooMany => k_is); (case t_TooMany => k_is); (case g_NoCount => k_is)
      (case i_NoCount => k_is); (case t_NoCount => k_is); (case g_NoUndo => k_is); (case i_NoUndo => k_is); (case t_NoUndo => k_is); (case g_NoTurn => k_is); (case i_NoTurn => k_is); (case t_NoTurn => k_is)
      (case g_NoRow => k_is); (case i_NoRow => k_is); (case t_NoRow => k_is); (case g_Unknown => k_is); (case i_Unknown => k_is); (case t_Unknown => k_is); (case g_NoTongue => k_is); (case i_NoTongue => k_is)
      (case t_NoTongue => k_is); (case g_NoWants => k_is); (case i_NoWants => k_is); (case t_NoWants => k_is); (case g_NoThing => k_is); (case i_NoThing => k_is); (case t_NoThing => k_is); (case g_BadSign => k_is)
      (case i_BadSign => k_is); (case t_BadSign => k_is); (case g_NoText => k_is); (case i_NoText => k_is); (case t_NoText => k_is); (case b_DearError => k_is); (case d1 => k_is); (case d2 => k_is)
      (case d3 => k_is); (case xl_NoWants => k_is); (case sa_NoWants => k_is); (case x2_NoWants => k_is); (case x3_NoWants => k_is); (case x4_NoWants => k_is); (case x5_NoWants => k_is); (case x6_NoWants => k_is)
      (case x7_NoWants => k_is); (case x8_NoWants => k_is); (case x9_NoWants => k_is); (case x10_NoWants => k_is); (case x11_NoWants => k_is); (case fn_NoWants => k_is); (case i1_NoWants => k_is); (case i2_NoWants => k_is)
      (case i3_NoWants => k_is); (case i4_NoWants => k_is); (case i5_NoWants => k_is); (case q_NoWants_DearError => k_is); (case n_NoWants_DearError => rfl); (case q_NoWants_NoNumber => k_is); (case n_NoWants_NoNumber => rfl); (case q_NoWants_NoBook => k_is)
      (case n_NoWants_NoBook => rfl); (case q_NoWants_NoTree => k_is); (case n_NoWants_NoTree => rfl); (case q_NoWants_TooMany => k_is); (case n_NoWants_TooMany => rfl); (case q_NoWants_NoCount => k_is); (case n_NoWants_NoCount => rfl); (case q_NoWants_NoUndo => k_is)
      (case n_NoWants_NoUndo => rfl); (case q_NoWants_NoTurn => k_is); (case n_NoWants_NoTurn => rfl); (case q_NoWants_NoRow => k_is); (case n_NoWants_NoRow => rfl); (case q_NoWants_Unknown => k_is); (case n_NoWants_Unknown => rfl); (case q_NoWants_NoTongue => k_is)
      (case n_NoWants_NoTongue => rfl); (case q_NoWants_NoWants => k_is); (case q_NoWants_NoThing => k_is); (case n_NoWants_NoThing => rfl); (case q_NoWants_BadSign => k_is); (case n_NoWants_BadSign => rfl); (case q_NoWants_NoText => k_is); (case n_NoWants_NoText => rfl)
      (case q_NoWants_ValueError => k_is); (case a1 => k_is); (case l1 => k_is); (case c1 => k_is); (case k1 => k_is); (case a2 => k_is); (case l2 => k_is); (case c2 => k_is)
      (case k2 => k_is); (case a3 => k_is); (case l3 => k_is); (case c3 => k_is); (case k3 => k_is); (case a4 => k_is); (case l4 => k_is); (case c4 => k_is)
      (case k4 => k_is); (case a5 => k_is); (case l5 => k_is); (case c5 => k_is); (case k5 => k_is); (case a6 => k_is); (case l6 => k_is); (case c6 => k_is)
      (case k6 => k_is); (case a7 => k_is); (case l7 => k_is); (case c7 => k_is); (case k7 => k_is); (case a8 => k_is); (case l8 => k_is); (case c8 => k_is)
      (case k8 => k_is); (case a9 => k_is); (case l9 => k_is); (case c9 => k_is); (case k9 => k_is); (case a10 => k_is); (case l10 => k_is); (case c10 => k_is)
      (case k10 => k_is); (case a11 => k_is); (case l11 => k_is); (case c11 => k_is); (case k11 => k_is); (case a12 => k_is); (case l12 => k_is); (case c12 => k_is)
      (case k12 => k_is); (case a13 => k_is); (case l13 => k_is); (case c13 => k_is); (case k13 => k_is); (case a14 => k_is); (case l14 => k_is); (case c14 => k_is)
      (case k14 => k_is); (case a15 => k_is); (case a16 => k_is); (case a17 => k_is); (case a18 => k_is); (case a19 => k_is); (case a20 => k_is); (case a21 => k_is)
      (case a22 => k_is); (case a23 => k_is); (case a24 => k_is); (case a25 => k_is); (case a26 => k_is); (case a27 => k_is); (case a28 => k_is); (case a29 => k_is)
      (case a30 => k_is); (case a31 => k_is); (case a32 => k_is)
#print axioms PySem.Challenge.cw_dearsigns_k10_wants_and_none_holds

