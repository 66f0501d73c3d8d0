import PyProof.Rows.All
import Wide.All
import OpenK.AllK
import Wide.FinOn
import HandS.ForMost
import HandS.Wide
import HandS.IsInst
import HandS.Flow
import HandS.Walk
import HandS.Strs
import HandS.Style
import HandS.Exc
import HandS.Codes
import HandS.ForExc
import HandS.ExcIs
import HandS.Defaults
import Flt.Len
import PySem.Challenge.RW_dearsigns_k06_texts_that_stand
set_option Elab.async false
set_option linter.all false
set_option maxRecDepth 100000
set_option maxHeartbeats 4000000

namespace Dear
open PySem PySem.Spec PyProof.Rows L2
/-! ### a def of the text, and a def with its promise -/
def Df (K : PySem.W.Frag) (mg : Str → Option Value) (x : Str) (st : Stmt) (ps : List Str) : Prop :=
  ∃ (f : Addr) (fd : FuncData), mg x = some (.ref f) ∧ Fun K x x st f fd ∧ Binds K fd ps []
def OkF (P : Program) (w : World) (K : PySem.W.Frag) (mg : Str → Option Value) (base : Heap) (CX : CXT) (k : Nat) (x : Str) (ps : List Str) (sp : Sp) : Prop :=
  ∃ (f : Addr) (fd : FuncData), mg x = some (.ref f) ∧ PySem.W.keepIn K (.ref f) = true ∧ Binds K fd ps [] ∧ FnOk P w K mg base CX k f fd ps sp
section
variable {P : Program} {w : World} {K : PySem.W.Frag} {mg : Str → Option Value} {base : Heap}
theorem Df.ok {x : Str} {st : Stmt} {N ps : List Str} {k : Nat} {sp : Sp} (D : Df K mg x st ps) (S : FnScope N ps (defScope st)) (len : ∀ vs H Q E, sp vs H Q E → vs.length = ps.length)
    (hbody : ∀ (f : Addr) (cdv : Value) (A : Around) (outer : List Env) (s : Shared) (H : Hp) (vs : List V) (Q : VK) (E : XK), Room k (A.deeper (envOfC x (defScope st) s.heap.objs.size f cdv)) → sp vs H Q E →
      ∃ t, PSs (cxOf CX0 P w K mg base N x (defScope st) f cdv A outer s H E).nox (defBody st) t ∧ t { nx := fun _ H' => Q .non H', rt := Q } (start N vs) H) : OkF P w K mg base CX0 (k + 1) x ps sp := by
  obtain ⟨f, fd, hm, F, hb⟩ := D
  exact ⟨f, fd, hm, F.kp, hb, F.ok S len (hbody f)⟩
end
section
variable {X : Cx}
theorem pe_c {k k' : Nat} {x : Str} {ps : List Str} {sp : Sp} {e : Expr} {es : List Expr} {t : TA} {p pos : Pos} (O : OkF X.prog X.w X.K X.mg X.base CX0 k x ps sp) (hr : Room k' X.A) (ha : PA X (e :: es) t) (hk : k ≤ k' := by decide) (hg : Gl X x := by rfl)
    (hdb : (x == ("__debug__" : Str)) = false := by decide) (he : starEach (e :: es) X.env = (false, eval e X.env) :: starEach es X.env := by rfl) (hpl : (backTo pos (starEach es X.env)).any (·.1) = false := by rfl) :
    PE X (.Call (.Name x p) (e :: es) [] pos) (tCall sp [] E0 t) := by
  obtain ⟨f, fd, hm, hkp, hb, F⟩ := O
  exact pe_call F (hr.mono hk) hg hm hkp hb .nil pass0 ha hdb he hpl
theorem pe_gi {x : Str} {i : Int} {pos : Pos} (h : ∃ t, X.mg x = some (.int i t)) (hg : Gl X x := by rfl) (hd : (x == ("__debug__" : Str)) = false := by decide) : PE X (.Name x pos) (tC (.int i)) := by
  obtain ⟨t, h⟩ := h
  exact pe_glob hg h ⟨_, rfl⟩ hd
theorem pe_gs {x : Str} {z : Str} {pos : Pos} (h : ∃ t, X.mg x = some (.str z t)) (hg : Gl X x := by rfl) (hd : (x == ("__debug__" : Str)) = false := by decide) : PE X (.Name x pos) (tC (.str z)) := by
  obtain ⟨t, h⟩ := h
  exact pe_glob hg h ⟨_, rfl⟩ hd
end
/-! ### the rules with the written part K named -/
section
variable {X : Cx} (K : PySem.W.Frag)
theorem ix_list_k (h : X.K = K := by rfl) : IxR X (rIxL K) := h ▸ ix_list
theorem ix_tup_k (h : X.K = K := by rfl) : IxR X (rIxT K) := h ▸ ix_tup
theorem sl_list_k (h : X.K = K := by rfl) : SlR X (rSlL K) := h ▸ sl_list
theorem sl_tup_k (h : X.K = K := by rfl) : SlR X (rSlT K) := h ▸ sl_tup
theorem op_in_seq_k (h : X.K = K := by rfl) : OpR X (compareOp .In) (rIn K false) := h ▸ op_in_seq
theorem op_notIn_seq_k (h : X.K = K := by rfl) : OpR X (compareOp .NotIn) (rIn K true) := h ▸ op_notIn_seq
def rLen : List V → Hp → VK → Prop := fun xs H Q => ∃ p ys, xs = [.ref p] ∧ (SqL K H p ys ∨ SqT K H p ys) ∧ Q (.int ys.length) H
theorem call_len_seq_k (h : X.K = K := by rfl) : CallR X (.builtin "len") (rLen K) := h ▸ call_len_seq
def rListOf : List V → Hp → VK → Prop := fun xs H Q => ∃ p ys, xs = [.ref p] ∧ (SqL K H p ys ∨ SqT K H p ys) ∧ ∀ l, H l = none → Q (.ref l) (upd H l (.lst ys))
theorem call_list_of_k (h : X.K = K := by rfl) : CallR X (.type "list") (rListOf K) := h ▸ call_list_of
def rTupOf : List V → Hp → VK → Prop := fun xs H Q => ∃ p ys, xs = [.ref p] ∧ ((SqL K H p ys ∧ ∀ l, H l = none → Q (.ref l) (upd H l (.tup ys))) ∨ (SqT K H p ys ∧ Q (.ref p) H))
theorem call_tuple_of_k (h : X.K = K := by rfl) : CallR X (.type "tuple") (rTupOf K) := h ▸ call_tuple_of
theorem cr_sum_k (hc : X.calm = true) (h : X.K = K := by rfl) : CallR X (.builtin "sum") (rSum K) := h ▸ cr_sum hc
theorem cr_max_k (hc : X.calm = true) (h : X.K = K := by rfl) : CallR X (.builtin "max") (rMax K) := h ▸ cr_max hc
theorem cr_min_k (hc : X.calm = true) (h : X.K = K := by rfl) : CallR X (.builtin "min") (rMin K) := h ▸ cr_min hc
theorem cr_any_k (hc : X.calm = true) (h : X.K = K := by rfl) : CallR X (.builtin "any") (rAny K) := h ▸ cr_any hc
theorem cr_all_k (hc : X.calm = true) (h : X.K = K := by rfl) : CallR X (.builtin "all") (rAll K) := h ▸ cr_all hc
theorem cr_sorted_k (h : X.K = K := by rfl) : CallR X (.builtin "sorted") (rSorted K) := h ▸ cr_sorted
theorem mt_index_k (h : X.K = K := by rfl) : MtR X "list.index" (rIndex K) := h ▸ mt_index
theorem op_eqD_k (hu : X.A.units + 64 < cLine) (h : X.K = K := by rfl) : OpR X (compareOp .Eq) (rEqD K) := h ▸ op_eqD hu
theorem op_neD_k (hu : X.A.units + 64 < cLine) (h : X.K = K := by rfl) : OpR X (compareOp .NotEq) (rNeD K) := h ▸ op_neD hu
theorem call_isi_k (h : X.K = K := by rfl) : CallR X (.builtin "isinstance") (rIsi K) := h ▸ call_isi
theorem call_isiT_k (h : X.K = K := by rfl) : CallR X (.builtin "isinstance") (rIsiT K) := h ▸ call_isiT
theorem op_catT_k (h : X.K = K := by rfl) : OpR X (binaryOp .Add) (rCatT K) := h ▸ op_catT
theorem pi_list_k {tg l : Expr} {tl : TE} (hl : PE X l tl) (h : X.K = K := by rfl) : PI X tg l (iList K tl) := h ▸ pi_list hl
theorem pi_tup_k {tg l : Expr} {tl : TE} (hl : PE X l tl) (h : X.K = K := by rfl) : PI X tg l (iTup K tl) := h ▸ pi_tup hl
theorem pe_revL_k {e : Expr} {te : TE} {k : Nat} {p1 p2 p3 pos : Pos} (he : PE X e te) (h : X.K = K := by rfl) : PE X (.Subscript e (.Slice none none (some (.UnaryOp .USub (.Constant (.int 1) k p1) p2)) p3) pos) (tRevL K te) := h ▸ pe_revL he
theorem pg_tup_k {es : List Expr} {k : Nat} {t : TGs} {n : Nat} {pos : Pos} (hc : X.calm = true) (hg : PGs X es t) (h : X.K = K := by rfl)
    (hn : (assignEach es X.env).length = n := by rfl) (hst : (assignEach es X.env).findIdx? (·.1) = none := by rfl) : PG X (.Tuple es k pos) (gTup K n t) := h ▸ pg_tup hc hg hn hst
def rDictP : List V → Hp → VK → Prop := fun xs H Q => ∃ (a : Addr) (ps : List Addr) (kvs : List (Key × V)), xs = [.ref a] ∧ SqL K H a (ps.map V.ref) ∧ Paired (fun p kv => SqT K H p [kV kv.1, kv.2]) ps kvs ∧
    ∀ p, H p = none → Q (.ref p) (upd H p (.dK (mergeK [] kvs)))
theorem call_dictP_k (hc : X.calm = true) (h : X.K = K := by rfl) : CallR X (.type "dict") (rDictP K) := h ▸ call_dictP hc
theorem u1 {n : Nat} (h : n + 64 < cLine) : n + 1 < cLine := by omega
def rJoin : V → List V → Hp → VK → Prop := fun x xs H Q => ∃ a p, ∃ ys : List Str, x = .str a ∧ xs = [.ref p] ∧ (SqL K H p (ys.map V.str) ∨ SqT K H p (ys.map V.str)) ∧ (ys.map (·.length)).sum + ys.length * a.length ≤ 16777216 ∧ Q (.str (Txt.join a ys)) H
theorem pe_join_k {o e : Expr} {to te : TE} {apos pos : Pos} (ho : PE X o to) (he : PE X e te) (h : X.K = K := by rfl) (hs : starEach [e] X.env = [(false, eval e X.env)] := by rfl) (hbase : attributeBase o "join" X.env (eval o X.env) = eval o X.env := by rfl) (hline : (apos.endLine == pos.line) = true := by rfl) :
    PE X (.Call (.Attribute o "join" apos) [e] [] pos) (tM1 (rJoin K) to te) := h ▸ pe_join ho he hs hbase hline
end
/-! ### heaps -/
/-- all that was tracked, but for what stands at l, is as it was -/
def But (l : Addr) (H H' : Hp) : Prop := ∀ b o, H b = some o → b ≠ l → H' b = some o
theorem But.refl (l : Addr) (H : Hp) : But l H H := fun _ _ h _ => h
theorem But.trans {l : Addr} {H H1 H2 : Hp} (a : But l H H1) (b : But l H1 H2) : But l H H2 := fun c o h n => b c o (a c o h n) n
theorem But.of {l : Addr} {H H1 : Hp} (a : Same H H1) : But l H H1 := fun c o h _ => a c o h
theorem But.upd {l : Addr} {H : Hp} {o : HO} : But l H (upd H l o) := fun b _ h n => by rw [upd_ne n]; exact h
theorem Same.upd {H : Hp} {l : Addr} {o : HO} (h : H l = none) : Same H (upd H l o) := fun b u e => by
  rw [upd_ne (ne_of_none e h)]
  exact e
theorem But.new {l : Addr} {H H1 : Hp} {p : Addr} {o : HO} (a : But l H H1) (h : H1 p = none) : But l H (L2.upd H1 p o) := a.trans (.of (Same.upd h))
theorem Same.new {H H1 : Hp} {p : Addr} {o : HO} (a : Same H H1) (h : H1 p = none) : Same H (L2.upd H1 p o) := a.trans (Same.upd h)
/-- the ends of an if -/
theorem itb {b : Bool} {A B : Prop} (h1 : b = true → A) (h2 : b = false → B) : if b = true then A else B := by
  cases b with
  | true => exact iteT (h1 rfl)
  | false => exact iteF (h2 rfl)
theorem itd {c : Prop} [Decidable c] {A B : Prop} (h1 : c → A) (h2 : ¬ c → B) : if decide c = true then A else B := itb (fun h => h1 (of_decide_eq_true h)) fun h => h2 (of_decide_eq_false h)
theorem itnd {c : Prop} [Decidable c] {A B : Prop} (h1 : ¬ c → A) (h2 : c → B) : if (!decide c) = true then A else B := itb (fun h => h1 (by simpa using h)) fun h => h2 (by simpa using h)
/-! ### readings, step by step -/
section
variable {σ : L2.St} {H : Hp} {D : Ends} {t1 t2 : TS} {te : TE} {i : Nat} {c : TT}
theorem s_seq (h : t1 { D with nx := t2 D } σ H) : tSeq t1 t2 D σ H := h
theorem s_set (h : te σ H fun v H' => D.nx (σ.set i (some v)) H') : tAsg te (gName i) D σ H := h
theorem s_ret (h : te σ H D.rt) : tRet te D σ H := h
theorem s_if (h : c σ H fun b H' => if b = true then t1 D σ H' else t2 D σ H') : tIfS c t1 t2 D σ H := h
theorem s_op {r : R2} {ta tb : TE} {Q : VK} (h : ta σ H fun x H1 => tb σ H1 fun y H2 => r x y H2 Q) : tOp r ta tb σ H Q := h
theorem s_nx (h : D.nx σ H) : tNext D σ H := h
end
end Dear

namespace Dear
open PySem PySem.Spec PyProof.Rows L2
/-! ### an exception that is caught, kept in a name, and asked behind the suite -/
/-- a kept exception at a: its class, its own dict -/
def ExK (cls : Value) (d : Option Addr) (a : Addr) : HO := .ext fun h => ∃ (oe : Obj) (vs : Array Value), h.get? a = some oe ∧ Zc cls d oe ∧ oe.data = .fields vs
theorem exK_ok {P : Program} {w : World} {H : Hp} {h : Heap} {a : Addr} {cls : Value} {d : Option Addr} {oe : Obj} {vs : Array Value} (e : h.get? a = some oe) (z : Zc cls d oe) (dt : oe.data = .fields vs) : ObjOk P w H h a (ExK cls d a) :=
  ⟨⟨oe, vs, e, z, dt⟩, ⟨oe, e⟩, fun _ _ ⟨o, v, q, r⟩ k => ⟨o, v, k o q, r⟩⟩
section
variable {X : Cx} {pins : List (Addr × Obj)} {σ : L2.St} {H : Hp} {s : Shared}
/-- an object that stands there untracked, new since the entry, becomes tracked -/
theorem track (I : Inv X pins σ H s) {a : Addr} {o : HO} {oe : Obj} (he : s.heap.get? a = some oe) (na : H a = none) (n0 : X.s_0.heap.get? a = none) (nL : a ≠ X.env.locals) (nC : ∀ v, oe.data ≠ .cell v)
    (nP : ∀ p ∈ X.pn ++ pins, p.1 ≠ a) (new : ObjOk X.prog X.w (upd H a o) s.heap a o) : Inv X pins σ (upd H a o) s where
  ok := I.ok
  os := I.os
  bare := I.bare
  base := {
    keep := I.base.keep
    slot := I.base.slot
    free := fun b u q n hx => by
      rw [upd_ne fun z => by rw [z, n0] at q; cases q]
      exact I.base.free b u q n hx
    there := I.base.there
    tups := fun b xs q => by
      have z := I.base.tups b xs q
      rw [upd_ne (ne_of_none z na)]
      exact z
    frzs := fun b u v q => by
      have z := I.base.frzs b u v q
      rw [upd_ne (ne_of_none z na)]
      exact z
    tbls := fun b ps q => by
      obtain ⟨m, z⟩ := I.base.tbls b ps q
      exact ⟨m, by rw [upd_ne (ne_of_none z na)]; exact z⟩ }
  loc := I.loc
  cell := I.cell
  free := by rw [upd_ne (Ne.symm nL)]; exact I.free
  freeC := fun x c e => by
    have ne : c ≠ a := fun z => by
      obtain ⟨v, ob, q, dq⟩ := I.cell x c e
      rw [z, he] at q
      cases q
      exact nC v dq
    rw [upd_ne ne]
    exact I.freeC x c e
  pin := fun p hp => by
    obtain ⟨p1, p2, p3⟩ := I.pin p hp
    exact ⟨p1, by rw [upd_ne (nP p hp)]; exact p2, p3⟩
  hok := fun b u e => by
    by_cases hb : b = a
    · subst hb
      rw [upd_same] at e
      cases e
      exact new
    · rw [upd_ne hb] at e
      exact (I.hok b u e).stay (fun _ _ _ q => q) (fun c q => by rw [upd_ne (ne_of_none q na)]; exact q) fun c xs q => by rw [upd_ne (ne_of_none q na)]; exact q
  len := I.len
end
/-- what «except x as n: y = n» wishes of an exception of the body: n's slot is i, y's is j; behind it the exception stands tracked -/
def wKept (K : PySem.W.Frag) (c : Value) (i j : Nat) (Wout : WX) (D : Ends) : WX := fun cls d σ H =>
  ∃ b, PySem.W.exmOne K cls c = some b ∧ (b = true → ∀ a, H a = none → D.nx (((σ.set i (some (.ref a))).set j (some (.ref a))).set i none) (upd H a (ExK cls d a))) ∧ (b = false → Wout cls d σ H)
section
variable {X : Cx} {x n y : Str} {c : Value} {i j : Nat} {body : List Stmt} {np pos pos2 p3 p4 p5 : Pos} {tb : WX → TS} {Wout : WX}
theorem ps_try_kept (hs : X.stack = X.env :: X.outer) (hf : X.env.frame = some X.env.locals) (hex : X.ex = []) (hN : X.N.Nodup) (hi : X.N[i]? = some n) (hj : X.N[j]? = some y) (hij : i ≠ j) (hln : X.env.kindOf n = some .local) (hly : X.env.kindOf y = some .local) (hc : Names X x c) (tk : Takes X Wout)
    (hb : ∀ (W : WX) (pn : List (Addr × Obj)) (xe : Value → Shared → Prop), Takes (X.tr pn xe) W → PassesOwn (model X.prog X.w) X.A X.env xe → PSs (X.tr pn xe) body (tb W))
    (hdn : (n == ("__debug__" : Str)) = false := by decide) (hcd : (n == ("__classdict__" : Str)) = false := by decide) :
    PS X (.Try body [.ExceptHandler (some (.Name x np)) (some n) [.Assign [.Name y p3] (.Name n p4) p5] pos2] [] [] pos) (fun D σ H => tb (wKept X.K c i j Wout D) D σ H) := by
  refine ⟨fun pins s σ H D I h => ?_⟩
  have ok := I.ok
  have frames : X.A.frames = some (X.env :: X.outer) := by rw [ok.frames, hs]
  refine wpAny_Try_except (wpAny_mono ((hb (wKept X.K c i j Wout D) (X.pn ++ pins) _ (fun u s1 air => ?_) PassesOwn.looking).run [] s σ H D (I.toTry _) h) (fun f s1 done => ?_) fun _ _ z => z)
  · obtain ⟨a, B, sI, pins', σ1, H1, cls, d, rfl, J1, nb, up, sky, na, os, ag, b, hm, yes, no⟩ := air
    have J : Inv X pins σ1 H1 sI := J1.ofTry ok
    rw [show X.stack = X.env :: X.outer from hs] at sky
    refine Sky.land Zc.steady frames hf sky fun h3 fl3 up3 => ?_
    have J3 : Inv X pins σ1 H1 { s1 with heap := h3 } := J.landed nb fl3.1 (up.trans up3) os ag
    obtain ⟨oe3, vs3, he3, hz3, hd3⟩ := fl3.there
    have nfr : a ∉ frs (X.env :: X.outer) := fun hm => by
      obtain ⟨_, o', e', hnf⟩ := fl3.2.2.1.mem hm
      rw [he3] at e'
      cases e'
      exact hnf _ hd3
    have nL : a ≠ X.env.locals := fun z => nfr (List.mem_filterMap.mpr ⟨X.env, List.mem_cons_self, by rw [hf, z]⟩)
    have nF : a ∉ X.fs := fun hm => by
      obtain ⟨e, he, q⟩ := List.mem_filterMap.mp hm
      exact nfr (List.mem_filterMap.mpr ⟨e, List.mem_cons_of_mem _ he, q⟩)
    -- it is new: neither there at the entry nor pinned
    have gone : ∀ o, sI.heap.get? a ≠ some o := fun o q => by
      have z := nb a o q (by rw [hs]; exact nfr)
      rw [fl3.2.1] at z
      cases z
    have n0 : X.s_0.heap.get? a = none := by
      cases q : X.s_0.heap.get? a with
      | none => rfl
      | some o =>
        obtain ⟨o', q'⟩ := J.base.there a o q (by rw [hex]; simp)
        exact absurd q' (gone o')
    have nP : ∀ p ∈ X.pn ++ pins, p.1 ≠ a := fun p hp z => gone p.2 (z ▸ (J.pin p hp).1)
    have S3 := J3.suite he3 hd3 na nL nF
    refine wpAny_handleBy_cons (codeAny_handlers_test ?_) (by intro q; cases q)
    have LT : PySem.W.Looks (model X.prog X.w) h3 (typeOf (.ref a)) cls := fun _ _ _ _ k q => wpAny_typeOf_ref (k _ _ he3) (by rw [hz3.1]; exact q)
    have LM := PySem.W.exm_one (M := model X.prog X.w) J3.kIn LT hm
    have named : ∀ {Q : Value → Shared → Prop} {E : Value → Shared → Prop}, Q c { s1 with heap := h3 } → wpAny (model X.prog X.w) (X.A.mark (some (.ref a))) (eval (.Name x np) X.env) Q E { s1 with heap := h3 } := fun {Q E} q => by
      obtain ⟨hg, hdbg, hm | ⟨hm, hv, hnn⟩⟩ := hc
      · exact ld_glob (X := X.suite a ((a, oe3) :: (X.pn ++ pins))) S3 hg hm q hdbg
      · exact ld_blt (X := X.suite a ((a, oe3) :: (X.pn ++ pins))) S3 hg hm hv q hnn hdbg
    refine named (LM.here ?_)
    cases b with
    | true =>
      refine codeAny_handlers_suite_as (HandSPX.lands_againZ fl3 fun h4 fl4 up4 => ?_)
      have J4 : Inv X pins σ1 H1 { s1 with heap := h4 } := J.landed nb fl4.1 ((up.trans up3).trans up4) os ag
      obtain ⟨oe4, vs4, he4, hz4, hd4⟩ := fl4.there
      refine store_ok (X := X.suite a ((a, oe4) :: (X.pn ++ pins))) (v := .ref a) (J4.suite he4 hd4 na nL nF) hN hi (.inl hln) rfl (fun s5 S5 => ?_) (.inr hln)
      have suite : PSs (X.suite a ((a, oe4) :: (X.pn ++ pins))) [.Assign [.Name y p3] (.Name n p4) p5] (tAsg (tVar i) (gName j)) := pss_one (ps_set hN hj (.inl hly) (pe_var hi (.inl hln) hdn hcd) (hf := .inr hly))
      have len1 : i < σ1.length := by
        rw [J.len]
        exact (List.getElem?_eq_some_iff.mp hi).1
      refine wpAny_mono (suite.run [] s5 _ H1 { nx := fun σ' H' => σ' = (σ1.set i (some (.ref a))).set j (some (.ref a)) ∧ H' = H1, rt := fun _ _ => False } S5 ⟨.ref a, by rw [List.getElem?_set_self len1], rfl, rfl⟩) (fun f s6 done => ?_) fun _ _ z => z.elim
      cases f with
      | next =>
        obtain ⟨σ6, H6, S6, rfl, rfl⟩ := done
        have he6 := (S6.pin (a, oe4) (List.mem_append_left _ List.mem_cons_self)).1
        refine gone_ok (track (S6.unsuite ok) (o := ExK cls d a) he6 na n0 nL (fun v q => by rw [hd4] at q; cases q) nP (exK_ok he6 hz4 hd4)) hN hi hln fun s7 J7 => ⟨_, _, J7, yes rfl a na⟩
      | brk =>
        obtain ⟨_, _, _, z⟩ := done
        exact z.elim
      | cont =>
        obtain ⟨_, _, _, z⟩ := done
        exact z.elim
      | ret u =>
        obtain ⟨_, _, _, _, _, z⟩ := done
        exact z.elim
    | false =>
      show wpAny _ X.A (handleBy (.ref a) X.env []) _ _ _
      refine wpAny_handleBy_nil ?_
      obtain ⟨_, _, _, oe, vs, T, _, _, he, _, hd, h1, _⟩ := id fl3
      unfold PySem.passOn
      refine wpAny_bind (wpAny_field he hd h1 ?_)
      rw [if_neg (show ¬ ((Value.ref T == Value.none) = true) from by simp)]
      have fin : wpAny (model X.prog X.w) X.A (setFlight (.ref a) X.env.frame) (fun _ s4 => wpAny (model X.prog X.w) X.A (throw (.ref a) : Sem Flow) (SP X pins D) X.xe s4) X.xe { s1 with heap := h3 } := by
        rw [hf]
        exact HandSPX.setFlight_upZ fl3 fun h4 hh4 up4 => wpAny_throw (tk _ _ ⟨a, B, sI, pins, σ1, H1, cls, d, rfl, J, nb, (up.trans up3).trans up4, .inr (.inr (by rw [hs]; exact hh4)), na, os, ag, no rfl⟩)
      first
        | exact wpAny_bind (wpAny_pure (wpAny_bind fin))
        | exact wpAny_bind fin
  · cases f with
    | next =>
      obtain ⟨σ', H', J', q⟩ := done
      exact wpAny_execs_nil ⟨σ', H', J'.ofTry ok, q⟩
    | brk =>
      obtain ⟨σ', H', J', q⟩ := done
      exact ⟨σ', H', J'.ofTry ok, q⟩
    | cont =>
      obtain ⟨σ', H', J', q⟩ := done
      exact ⟨σ', H', J'.ofTry ok, q⟩
    | ret u =>
      obtain ⟨v, σ', H', J', r, q⟩ := done
      exact ⟨v, σ', H', J'.ofTry ok, r, q⟩
end
/-! ### isinstance of a kept exception -/
/-- the object as the library's rules want it -/
theorem instAt_kept {h : Heap} {a D : Addr} {oe : Obj} {vs : Array Value} (e : h.get? a = some oe) (z : Zc (.ref D) none oe) (d : oe.data = .fields vs) : PySem.W.InstAt h a oe D none := by
  obtain ⟨oc, od, oda, osl⟩ := oe
  obtain ⟨h1, h2⟩ := z
  dsimp only at h1 h2 d
  subst h1 h2 d
  exact ⟨e, rfl, rfl, trivial⟩
def rIsX (K : PySem.W.Frag) : List V → Hp → VK → Prop := fun xs H Q => ∃ (a D : Addr) (c : V) (u : Value) (b : Bool), xs = [.ref a, c] ∧ H a = some (ExK (.ref D) none a) ∧ ExcC K D ∧ ClsV c u ∧ PySem.W.kitOne K (.ref D) u = some b ∧ Q (.bl b) H
def rIsXT (K : PySem.W.Frag) : List V → Hp → VK → Prop := fun xs H Q => ∃ (a D tp : Addr) (cs : List V) (us : List Value) (b : Bool), xs = [.ref a, .ref tp] ∧ H a = some (ExK (.ref D) none a) ∧ ExcC K D ∧ H tp = some (.tup cs) ∧ Paired ClsV cs us ∧ PySem.W.kitAny K (.ref D) us = some b ∧ Q (.bl b) H
section
variable {X : Cx} (K : PySem.W.Frag)
theorem call_isX_k (hk : X.K = K := by rfl) : CallR X (.builtin "isinstance") (rIsX K) := by
  subst hk
  intro pins s σ H xs us Q I r h
  obtain ⟨a, D, c, u, b, rfl, ha, C, k, e, q⟩ := h
  obtain ⟨u1, u2, rfl, r1, r2⟩ := vals2 r
  have e2 := k.eq r2
  subst e2
  cases r1
  obtain ⟨⟨oe, vs, he, hz, hd⟩, _⟩ := I.hok a _ ha
  exact PySem.W.kia_one (PySem.W.handS_kitx_exc C.hg C.hk C.hs C.hd C.ha C.hn C.ht C.hm) I.kIn (instAt_kept he hz hd) e (fun z => nomatch z) fun tk => ⟨.bl b, H, I.tok tk, rfl, q⟩
theorem call_isXT_k (hk : X.K = K := by rfl) : CallR X (.builtin "isinstance") (rIsXT K) := by
  subst hk
  intro pins s σ H xs us Q I r h
  obtain ⟨a, D, tp, cs, ws, b, rfl, ha, C, hT, k, e, q⟩ := h
  obtain ⟨u1, u2, rfl, r1, r2⟩ := vals2 r
  cases r1
  cases (show u2 = Value.ref tp from r2)
  obtain ⟨⟨oe, vs, he, hz, hd⟩, _⟩ := I.hok a _ ha
  obtain ⟨_, its, rv, o, h1, h2, n, h3⟩ := (show ObjOk X.prog X.w H s.heap tp (.tup cs) from I.hok tp _ hT)
  have e3 := ClsV.all k rv
  subst e3
  obtain ⟨oc, od, dt, sl⟩ := o
  simp only at h2 h3
  subst h2 h3
  exact PySem.W.kia_tup (PySem.W.handS_kitx_exc C.hg C.hk C.hs C.hd C.ha C.hn C.ht C.hm) I.kIn (instAt_kept he hz hd) h1 e (fun z => nomatch z) fun tk => ⟨.bl b, H, I.tok tk, rfl, q⟩
end
/-! ### facts of own exception classes, calls of defs that raise, defs with defaults -/
/-- an own exception class over ValueError, without an own __init__ -/
structure ExOwn (K : PySem.W.Frag) (mg : Str → Option Value) (x : Str) (C : Addr) : Prop where
  g : mg x = some (.ref C)
  x : PySem.W.excIn K C [.type "ValueError", .type "Exception", .type "BaseException", .type "object"] "ValueError.__new__" = true
  k : PySem.W.keepIn K (.ref C) = true
  b : PySem.W.subIn K (.ref C) (.type "BaseException") = some true
  t : PySem.W.typeIn K (.ref C) = some (.type "type")
  c : ExcC K C
theorem kit_ref {K : PySem.W.Frag} {A C : Addr} {b : Bool} (n : (Value.ref A == Value.ref C) = false) (i : PySem.W.isClsIn K C = true) (t : PySem.W.typeIn K (.ref C) = some (.type "type")) (q : PySem.W.subIn K (.ref A) (.ref C) = some b) : PySem.W.kitOne K (.ref A) (.ref C) = some b := by
  unfold PySem.W.kitOne
  rw [if_neg (by rw [n]; exact Bool.false_ne_true)]
  have i' : (PySem.W.clsIn K C).isSome = true := i
  show (if ((PySem.W.clsIn K C).isSome && PySem.W.typeIn K (.ref C) == some (.type "type")) = true then PySem.W.subIn K (.ref A) (.ref C) else none) = some b
  rw [i', t, if_pos (by simp)]
  exact q
theorem kit_self {K : PySem.W.Frag} {C : Addr} : PySem.W.kitOne K (.ref C) (.ref C) = some true := by
  unfold PySem.W.kitOne
  rw [if_pos (by simp)]
theorem kit_val {K : PySem.W.Frag} {A : Addr} (q : PySem.W.subIn K (.ref A) (.type "ValueError") = some true) : PySem.W.kitOne K (.ref A) (.type "ValueError") = some true := by
  unfold PySem.W.kitOne
  rw [if_neg (by simp)]
  have m : PySem.W.kitMeta "ValueError" = true := by decide +kernel
  show (if PySem.W.kitMeta "ValueError" = true then PySem.W.subIn K (.ref A) (.type "ValueError") else none) = some true
  rw [if_pos m]
  exact q
theorem exm_ref2 {K : PySem.W.Frag} {A C : Addr} {b : Bool} (h1 : PySem.W.subIn K (.ref C) (.type "BaseException") = some true) (i : PySem.W.isClsIn K C = true) (t : PySem.W.typeIn K (.ref C) = some (.type "type")) (q : PySem.W.subIn K (.ref A) (.ref C) = some b) : PySem.W.exmOne K (.ref A) (.ref C) = some b := by
  have i' : (PySem.W.clsIn K C).isSome = true := i
  show (if (PySem.W.subIn K (.ref C) (.type "BaseException") == some true) = true then (if ((PySem.W.clsIn K C).isSome && PySem.W.typeIn K (.ref C) == some (.type "type")) = true then PySem.W.subIn K (.ref A) (.ref C) else none) else none) = some b
  rw [h1, i', t, if_pos (by simp), if_pos (by simp)]
  exact q
/-- none of some classes -/
theorem kit_none {K : PySem.W.Frag} {t : Value} : ∀ {us : List Value}, (∀ u ∈ us, PySem.W.kitOne K t u = some false) → PySem.W.kitAny K t us = some false
  | [], _ => rfl
  | u :: us, h => kitAny_cons (h u List.mem_cons_self) (fun _ => kit_none fun x hx => h x (List.mem_cons_of_mem _ hx)) (fun z => by cases z)
theorem cls_all : ∀ {cs : List Addr}, Paired ClsV (cs.map V.ref) (cs.map Value.ref)
  | [] => .nil
  | c :: _ => .cons (.own c) cls_all
/-- a def with defaults dvs, and with its promise -/
def DfD (K : PySem.W.Frag) (mg : Str → Option Value) (x : Str) (st : Stmt) (ps : List Str) (dvs : List V) : Prop :=
  ∃ (f : Addr) (fd : FuncData), mg x = some (.ref f) ∧ FunD K x x (defArgs st) (defBody st) (defScope st) dvs [] f fd ∧ (∃ ds, Vals dvs ds ∧ Binds K fd ps ds) ∧ Binds K fd ps []
def OkD (P : Program) (w : World) (K : PySem.W.Frag) (mg : Str → Option Value) (base : Heap) (CX : CXT) (k : Nat) (x : Str) (ps : List Str) (dvs : List V) (sp : Sp) : Prop :=
  ∃ (f : Addr) (fd : FuncData), mg x = some (.ref f) ∧ PySem.W.keepIn K (.ref f) = true ∧ (∃ ds, Vals dvs ds ∧ Binds K fd ps ds) ∧ Binds K fd ps [] ∧ FnOk P w K mg base CX k f fd ps sp
theorem dfD_mk {K : PySem.W.Frag} {mg : Str → Option Value} {x : Str} {st : Stmt} {ps : List Str} {dvs : List V} {f T : Addr} {oc oC kV dc pm cd ct : Value} {od oD an : Option Addr} {sl sD : Array (Option Value)} {its : List Value} {n : Nat}
    (hm : mg x = some (.ref f)) (l : K.lookup f = some ⟨oc, od, .func (PySem.W.fnOf x x (defArgs st) (defBody st) (defScope st) (.ref T) kV dc pm an cd ct), sl⟩) (c : PySem.W.codeIn K cd x = true) (k : PySem.W.keepIn K (.ref f) = true)
    (d : K.lookup T = some ⟨oC, oD, .seq its.toArray n, sD⟩) (r : Vals dvs its) (hd : dvs ≠ []) {m : Nat} (hn : m + dvs.length = ps.length) (hz : dvs.drop dvs.length = [])
    (h1 : ∀ (T : Addr) (kV doc pm : Value) (an : Option Addr) (cdv ct : Value) (us its : List Value), us.length = m → its.length = dvs.length →
      ∃ k, bindArgs (PySem.W.fnOf x x (defArgs st) (defBody st) (defScope st) (.ref T) kV doc pm an cdv ct) ⟨us, []⟩ = seqItems? (.ref T) >>= k ∧ k (some its.toArray) = pure (ps.zip (us ++ its.drop 0)))
    (h2 : ∀ (T : Addr) (kV doc pm : Value) (an : Option Addr) (cdv ct : Value) (us its : List Value), us.length = ps.length → its.length = dvs.length →
      ∃ k, bindArgs (PySem.W.fnOf x x (defArgs st) (defBody st) (defScope st) (.ref T) kV doc pm an cdv ct) ⟨us, []⟩ = seqItems? (.ref T) >>= k ∧ k (some its.toArray) = pure (ps.zip (us ++ its.drop dvs.length))) : DfD K mg x st ps dvs := by
  have F : FunD K x x (defArgs st) (defBody st) (defScope st) dvs [] f (PySem.W.fnOf x x (defArgs st) (defBody st) (defScope st) (.ref T) kV dc pm an cd ct) :=
    ⟨⟨oc, od, .ref T, kV, dc, pm, an, cd, ct, sl, rfl, l, c, .inr ⟨hd, T, _, its, n, rfl, d, rfl, r⟩, .inl rfl⟩, k⟩
  refine ⟨f, _, hm, F, F.binds1 m 0 hd (by omega) h1, ?_⟩
  obtain ⟨ds, v, b⟩ := F.binds1 ps.length dvs.length hd (by omega) h2
  rw [hz] at v
  cases v
  exact b
section
variable {P : Program} {w : World} {K : PySem.W.Frag} {mg : Str → Option Value} {base : Heap}
theorem DfD.ok {CX : CXT} {x : Str} {st : Stmt} {N ps : List Str} {dvs : List V} {k : Nat} {sp : Sp} (D : DfD K mg x st ps dvs) (S : FnScope N ps (defScope st)) (len : ∀ vs H Q E, sp vs H Q E → vs.length = ps.length)
    (hbody : ∀ (f : Addr) (cdv : Value) (A : Around) (outer : List Env) (s : Shared) (H : Hp) (vs : List V) (Q : VK) (E : XK), Room k (A.deeper (envOfC x (defScope st) s.heap.objs.size f cdv)) → sp vs H Q E →
      ∃ t, PSs (cxOf CX P w K mg base N x (defScope st) f cdv A outer s H E) (defBody st) t ∧ t { nx := fun _ H' => Q .non H', rt := Q } (start N vs) H) : OkD P w K mg base CX (k + 1) x ps dvs sp := by
  obtain ⟨f, fd, hm, F, hb, hb0⟩ := D
  exact ⟨f, fd, hm, F.kp, hb, hb0, F.ok S len (hbody f)⟩
/-- a def that may raise -/
theorem Df.okX {x : Str} {st : Stmt} {N ps : List Str} {k : Nat} {sp : Sp} (D : Df K mg x st ps) (S : FnScope N ps (defScope st)) (len : ∀ vs H Q E, sp vs H Q E → vs.length = ps.length)
    (hbody : ∀ (f : Addr) (cdv : Value) (A : Around) (outer : List Env) (s : Shared) (H : Hp) (vs : List V) (Q : VK) (E : XK), Room k (A.deeper (envOfC x (defScope st) s.heap.objs.size f cdv)) → sp vs H Q E →
      ∃ t, PSs (cxOf (L2.CX P w) P w K mg base N x (defScope st) f cdv A outer s H E) (defBody st) t ∧ t { nx := fun _ H' => Q .non H', rt := Q } (start N vs) H) : OkF P w K mg base (L2.CX P w) (k + 1) x ps sp := by
  obtain ⟨f, fd, hm, F, hb⟩ := D
  exact ⟨f, fd, hm, F.kp, hb, F.okX S len (hbody f)⟩
end
section
variable {X : Cx} {k k' : Nat} {x : Str} {ps : List Str} {sp : Sp} {e : Expr} {es : List Expr} {t : TA} {p pos : Pos} {W : WX} {dvs : List V}
/-- f(e, ..) where f may raise -/
theorem pe_cx (O : OkF X.prog X.w X.K X.mg X.base (L2.CX X.prog X.w) k x ps sp) (hr : Room k' X.A) (tk : Takes X W) (ha : PA X (e :: es) t) (hk : k ≤ k' := by decide) (hg : Gl X x := by rfl)
    (hdb : (x == ("__debug__" : Str)) = false := by decide) (he : starEach (e :: es) X.env = (false, eval e X.env) :: starEach es X.env := by rfl) (hpl : (backTo pos (starEach es X.env)).any (·.1) = false := by rfl) :
    PE X (.Call (.Name x p) (e :: es) [] pos) (tCallS sp (WE W) t) := by
  obtain ⟨f, fd, hm, hkp, hb, F⟩ := O
  exact pe_callS F (hr.mono hk) hg hm hkp hb (fun σ => passAt tk σ) ha hdb he hpl
/-- the same, f with defaults, all arguments written -/
theorem pe_cxn (O : OkD X.prog X.w X.K X.mg X.base (L2.CX X.prog X.w) k x ps dvs sp) (hr : Room k' X.A) (tk : Takes X W) (ha : PA X (e :: es) t) (hk : k ≤ k' := by decide) (hg : Gl X x := by rfl)
    (hdb : (x == ("__debug__" : Str)) = false := by decide) (he : starEach (e :: es) X.env = (false, eval e X.env) :: starEach es X.env := by rfl) (hpl : (backTo pos (starEach es X.env)).any (·.1) = false := by rfl) :
    PE X (.Call (.Name x p) (e :: es) [] pos) (tCallS sp (WE W) t) := by
  obtain ⟨f, fd, hm, hkp, _, hb, F⟩ := O
  exact pe_callS F (hr.mono hk) hg hm hkp hb (fun σ => passAt tk σ) ha hdb he hpl
/-- the same, the defaults fill up -/
def tCallD (sp : Sp) (dvs : List V) (E : L2.St → XK) (t : TA) : TE := fun σ H Q => t σ H fun vs H1 => sp (vs ++ dvs) H1 Q (E σ)
theorem pe_cxd (O : OkD X.prog X.w X.K X.mg X.base (L2.CX X.prog X.w) k x ps dvs sp) (hr : Room k' X.A) (tk : Takes X W) (ha : PA X (e :: es) t) (hk : k ≤ k' := by decide) (hg : Gl X x := by rfl)
    (hdb : (x == ("__debug__" : Str)) = false := by decide) (he : starEach (e :: es) X.env = (false, eval e X.env) :: starEach es X.env := by rfl) (hpl : (backTo pos (starEach es X.env)).any (·.1) = false := by rfl) :
    PE X (.Call (.Name x p) (e :: es) [] pos) (tCallD sp dvs (WE W) t) := by
  obtain ⟨f, fd, hm, hkp, ⟨ds, hv, hb⟩, _, F⟩ := O
  refine ⟨fun pins s σ H Q I h => ?_⟩
  refine wpAny_Call_Name_kw (ld_glob I hg hm ?_ hdb)
  refine PySem.W.callWith_K (h₀ := X.base) I.ok.mod.kin hkp (thn (ha.run pos pins s σ H _ I h) fun us s1 ⟨vs, H1, I1, r, q⟩ => ⟨I1.kIn, ?_⟩) he hpl
  have hl : (vs ++ dvs).length = ps.length := F.len _ _ _ _ q
  have b := hb s1 us I1.kIn (by rw [← hl, List.length_append, List.length_append, r.length, hv.length])
  refine wpAny_call (codeAny_mono (F.run X.A X.stack s1 H1 ⟨us, []⟩ (us ++ ds) (vs ++ dvs) Q (WE W σ) (hr.mono hk) I1.env0 b (r.append hv) q) fun rr s2 hq => ?_)
  cases rr with
  | error e => exact passAt tk σ pins H1 s1 e s2 I1 hq
  | ok fl =>
    cases fl with
    | ret u => exact I1.after hq
    | next => exact False.elim hq
    | brk => exact False.elim hq
    | cont => exact False.elim hq
end
end Dear

namespace Dear
open PySem PySem.Spec PyProof.Rows L2
/-! ### the set of a list of texts (any number), and how many it has -/
def dd1 (m : List Str) (v : Str) : List Str := if v ∈ m then m else m ++ [v]
def dd (xs : List Str) : List Str := xs.foldl dd1 []
theorem dd1_any (m : List Str) (v k : Str) : (m.any (· == k) || decide (k = v)) = (dd1 m v).any (· == k) := by
  unfold dd1
  by_cases h : v ∈ m
  · rw [if_pos h]
    by_cases e : k = v
    · subst e
      have : m.any (· == k) = true := List.any_eq_true.mpr ⟨k, h, by simp⟩
      rw [this]
      rfl
    · rw [decide_eq_false e, Bool.or_false]
  · rw [if_neg h, List.any_append]
    congr 1
    by_cases e : k = v
    · subst e; simp
    · have : ¬ v = k := fun z => e z.symm
      simp [e, this]
theorem dd1_len (m : List Str) (v : Str) : (if m.any (· == v) = true then m.length else m.length + 1) = (dd1 m v).length := by
  unfold dd1
  by_cases h : v ∈ m
  · have : m.any (· == v) = true := List.any_eq_true.mpr ⟨v, h, by simp⟩
    rw [if_pos h, if_pos this]
  · have : ¬ m.any (· == v) = true := fun z => by
      obtain ⟨x, hx, e⟩ := List.any_eq_true.mp z
      have e' : x = v := by simpa using e
      subst e'
      exact h hx
    rw [if_neg h, if_neg this, List.length_append]
    rfl
theorem dd_le : ∀ (xs m : List Str), (xs.foldl dd1 m).length ≤ m.length + xs.length
  | [], m => by simp
  | v :: r, m => by
    rw [List.foldl_cons]
    have h1 := dd_le r (dd1 m v)
    have h2 : (dd1 m v).length ≤ m.length + 1 := by
      unfold dd1
      split
      · omega
      · simp
    rw [List.length_cons]
    omega
theorem dd_more {xs : List Str} {i : Nat} {v : Str} (h : xs[i]? = some v) : dd (xs.take (i + 1)) = dd1 (dd (xs.take i)) v := by
  unfold dd
  rw [List.take_succ, h, List.foldl_append]
  rfl
/-- unlike ones: as many as there are -/
theorem dd_nodup : ∀ {xs : List Str} (m : List Str), (m ++ xs).Nodup → xs.foldl dd1 m = m ++ xs
  | [], m, _ => by simp
  | v :: r, m, h => by
    have hv : ¬ v ∈ m := fun z => by
      have := List.nodup_append.mp h
      exact this.2.2 v z v List.mem_cons_self rfl
    rw [List.foldl_cons]
    have e : dd1 m v = m ++ [v] := if_neg hv
    rw [e, dd_nodup (m ++ [v]) (by rw [List.append_assoc]; exact h), List.append_assoc]
    rfl
theorem dd_mem : ∀ (xs m : List Str) (k : Str), k ∈ xs.foldl dd1 m ↔ k ∈ m ∨ k ∈ xs
  | [], m, k => by simp
  | v :: r, m, k => by
    rw [List.foldl_cons, dd_mem r (dd1 m v) k]
    unfold dd1
    split
    · rename_i h
      constructor
      · rintro (h1 | h1)
        · exact .inl h1
        · exact .inr (List.mem_cons_of_mem _ h1)
      · rintro (h1 | h1)
        · exact .inl h1
        · rcases List.mem_cons.mp h1 with rfl | h1
          · exact .inl h
          · exact .inr h1
    · simp [or_assoc]
theorem dd_uniq : ∀ (xs m : List Str), m.Nodup → (xs.foldl dd1 m).Nodup
  | [], m, h => h
  | v :: r, m, h => by
    rw [List.foldl_cons]
    refine dd_uniq r _ ?_
    unfold dd1
    split
    · exact h
    · rename_i hv
      rw [List.nodup_append]
      exact ⟨h, by simp, fun a ha b hb e => by
        have : b = v := by simpa using hb
        subst this; subst e; exact hv ha⟩
/-- just unlike ones come to as many -/
theorem dd_full {xs : List Str} (h : (dd xs).length = xs.length) : xs.Nodup := by
  have key : ∀ (ys m : List Str), m.Nodup → (ys.foldl dd1 m).length = m.length + ys.length → (m ++ ys).Nodup := by
    intro ys
    induction ys with
    | nil => intro m hm _; simpa using hm
    | cons v r ih =>
      intro m hm e
      rw [List.foldl_cons] at e
      have hv : ¬ v ∈ m := fun z => by
        have e1 : dd1 m v = m := if_pos z
        rw [e1] at e
        have := dd_le r m
        rw [List.length_cons] at e
        omega
      have e1 : dd1 m v = m ++ [v] := if_neg hv
      rw [e1] at e
      have hm2 : (m ++ [v]).Nodup := by
        rw [List.nodup_append]
        exact ⟨hm, by simp, fun a ha b hb e2 => by
          have : b = v := by simpa using hb
          exact hv (this ▸ e2 ▸ ha)⟩
      have := ih (m ++ [v]) hm2 (by rw [e, List.length_append, List.length_cons]; simp; omega)
      rw [List.append_assoc] at this
      exact this
  have := key xs [] List.nodup_nil (by rw [List.length_nil, Nat.zero_add]; exact h)
  simpa using this
section
variable {prog : Program} {w : World} {A : Around} {R : Result → Shared → Prop} {I : Addr} {fp wr : List Addr} {G : Array GenState → Array GenState → Prop} {n : Nat} {Pn : Nat → Value → Prop} {St : Nat → Shared → Prop}
/-- S holds the unlike ones of the first i -/
def SetAtS (prog : Program) (w : World) (h : Heap) (S : Addr) (xs : List Str) : Prop := h.SetOf (PySem.strKind prog w) S (fun k => (dd xs).any (· == k)) (dd xs).length
theorem set_loop (W : WalksS prog w A.in1 I fp wr G n Pn St) (S : Addr) (out : S ∉ fp) (xs : List Str) (size : xs.length = n) (room : n + 1 < scanBound)
    (vals : ∀ i v, Pn i v → ∃ t, v = .str (xs.getD i Str.empty) t) :
    ∀ (m i : Nat) (s : Shared), i + m = n → St i s → SetAtS prog w s.heap S (xs.take i) →
      (∀ s', Moved (S :: wr) G s s' → SetAtS prog w s'.heap S xs → R (.ok (.ret .none)) s') →
      codeAny (model prog w) A (.builtin "set.update.loop" ⟨[.ref S, .ref I], []⟩) R s := by
  have outw : S ∉ wr := fun z => out (W.sub _ z)
  have more : ∀ b ∈ wr, b ∈ S :: wr := fun b z => List.mem_cons_of_mem _ z
  have stay : ∀ {s s' : Shared} {ys : List Str}, Moved wr G s s' → SetAtS prog w s.heap S ys → SetAtS prog w s'.heap S ys := fun mv hS => by
    obtain ⟨o, es, ep, tb, ho, rest⟩ := hS
    exact ⟨o, es, ep, tb, mv.heap S _ outw ho, rest⟩
  intro m
  induction m with
  | zero =>
    intro i s im hst hS hR
    have ei : i = n := by omega
    subst ei
    rw [← size, List.take_length] at hS
    refine codeAny_builtin PyProof.Rows.F.entry_set_update_loop (?_ : wpAny _ _ _ _ _ s)
    rw [Around.under_plainId PyProof.Rows.F.plain_set_update_loop _]
    show wpAny _ A.in1 (pyNext (.ref I) >>= _) _ _ s
    exact wpAny_bind (W.done s _ _ hst fun s' mv => wpAny_pure (hR s' (mv.mono more) (stay mv hS)))
  | succ m ih =>
    intro i s im hst hS hR
    have lt : i < n := by omega
    refine codeAny_builtin PyProof.Rows.F.entry_set_update_loop (?_ : wpAny _ _ _ _ _ s)
    rw [Around.under_plainId PyProof.Rows.F.plain_set_update_loop _]
    show wpAny _ A.in1 (pyNext (.ref I) >>= _) _ _ s
    refine wpAny_bind (W.item i s _ _ lt hst fun v s1 pv st1 mv => ?_)
    obtain ⟨t, rfl⟩ := vals i v pv
    have e : xs[i]? = some (xs.getD i Str.empty) := by
      rw [List.getD_eq_getElem?_getD, List.getElem?_eq_getElem (by omega)]
      rfl
    generalize xs.getD i Str.empty = x at e
    have hS1 := stay mv hS
    show wpAny _ A.in1 (holding [Value.str x t] (setAdd S (.str x t)) >>= _) _ _ s1
    refine wpAny_bind (wpAny_holding ?_)
    unfold setAdd
    refine wpAny_holding (wpAny_bind ((PySem.strKind prog w).pyHash (k := x) (strKind_is _ _ _ _) ?_))
    have few : (dd (xs.take i)).length + 1 < scanBound := by
      have := dd_le (xs.take i) []
      have h2 : (xs.take i).length ≤ n := by rw [List.length_take]; omega
      have h3 : (dd (xs.take i)).length ≤ (xs.take i).length := by simpa [dd] using this
      omega
    refine wpAny_setAddHashed_of (knd := PySem.strKind prog w) (s := { s1 with toks := s1.toks + 1 }) (strKind_is _ _ _ _) rfl hS1 few fun h2 same hS2 => ?_
    have next : SetAtS prog w h2 S (xs.take (i + 1)) := by
      unfold SetAtS
      rw [dd_more e]
      exact SetOf_congr hS2 (fun k => dd1_any _ _ k) (dd1_len _ _)
    refine wpAny_pure ⟨plainId_quiet PyProof.Rows.F.plain_set_update_loop _, ih (i + 1) _ (by omega) (W.frame _ s1 _ _ st1 (Nat.le_succ _) fun b hb o z => ?_) next fun s3 mv3 hS3 => hR s3 (Moved.trans W.gtrans ((mv.mono more).then_heap (Nat.le_succ _) fun b o hb z => ?_) mv3) hS3⟩
    · rw [same.2 b fun q => out (q ▸ hb)]
      exact z
    · rw [same.2 b fun q => hb (q ▸ List.mem_cons_self)]
      exact z
end
section
variable {prog : Program} {w : World} {A : Around} {E : Value → Shared → Prop} {s : Shared}
/-- an empty set, new -/
abbrev set0 (led : Bool) : Obj := { cls := .type "set", dict := none, data := .set #[] 0 (.fresh 0 0 led) }
set_option maxHeartbeats 3200000 in
/-- set(xs), xs a list of texts -/
theorem set_of_list {l : Addr} {its : Array Value} {xs : List Str} {Q : Value → Shared → Prop} (calm : A.handled = none) (hl : s.heap.IsList l its) (hi : StrsAre its.toList xs) (room : xs.length + 1 < scanBound)
    (q : ∀ (h2 : Heap) (tk : Nat), SetAtS prog w h2 s.heap.objs.size xs → (∀ b o, b < s.heap.objs.size → s.heap.get? b = some o → h2.get? b = some o) → Q (.ref s.heap.objs.size) { s with heap := h2, toks := tk }) :
    wpAny (model prog w) A (call (.type "set") [.ref l]) Q E s := by
  obtain ⟨_, _, way⟩ := PySem.F.called_set.mro
  have f1 := PySem.F.called_set.made
  have f2 := PySem.F.called_set.sub
  have f3 := PySem.F.called_set.notType
  have f4 := PySem.F.called_set.canCreate
  have f5 := PySem.F.typeCall_set_1 (.ref l)
  refine wpAny_call (codeAny_of_tree (?_ : wpAny _ _ (callAny (.type "set") _) _ _ _))
  refine wpAny_pure ⟨Code.quiet_builtin _ (by decide +kernel), codeAny_builtin PySem.F.entry_type_call (?_ : wpAny _ _ _ _ _ _)⟩
  rw [Around.under_plain (weight_type_call_type "set" [.ref l] []) rfl]
  repeat (any_goals (first | assumption | wp_step))
  refine codeAny_mono (code_set_new_1 (.ref l) (E := E) (Q₁ := fun u s1 => ∃ led : Bool, u = .ref s.heap.objs.size ∧ s1 = { s with heap := s.heap.push (set0 led) }) fun led => ⟨led, rfl, rfl⟩) fun r s1 hr => ?_
  cases r with
  | error e => exact hr
  | ok fl =>
    cases fl with
    | next => exact hr.elim
    | brk => exact hr.elim
    | cont => exact hr.elim
    | ret u =>
      obtain ⟨led, rfl, rfl⟩ := hr
      have g0 : (s.heap.push (set0 led)).get? s.heap.objs.size = some (set0 led) := Heap.get?_push_size _ rfl
      have ty : Shared.TypeIs { s with heap := s.heap.push (set0 led) } (.ref s.heap.objs.size) "set" := ⟨_, g0, rfl⟩
      have f6 := PySem.F.called_set.init.lookup
      have f7 := PySem.F.called_set.init.bind (.ref s.heap.objs.size)
      repeat (any_goals (first | assumption | wp_step))
      refine codeAny_mono (codeAny_call_builtin (R := wants (fun r s2 => r = .none ∧ ∃ h2 tk, s2 = { s with heap := h2, toks := tk } ∧ SetAtS prog w h2 s.heap.objs.size xs ∧ (∀ b o, b < s.heap.objs.size → s.heap.get? b = some o → h2.get? b = some o)) E)
        PySem.F.called_set.init.plain PySem.F.entry_set_init (check_set_init_1 ty ?_)) fun r2 s2 hr2 => ?_
      · obtain ⟨⟨c, d, da, sl⟩, ol, cl, nl, dl⟩ := hl
        simp only at cl dl
        subst cl dl
        have ol1 : (s.heap.push (set0 led)).get? l = some { cls := .type "list", dict := d, data := .seq its nl, slots := sl } := Heap.get?_push_of_some _ ol
        have f8 := PySem.F.sub_list_set
        have f9 := PySem.F.sub_list_frozenset
        have f10 : (Value.type "list" == Value.type "dict") = false := by decide
        have hl1 : (s.heap.push (set0 led)).IsList l its := ⟨_, ol1, rfl, nl, rfl⟩
        unfold Builtin.«set.__init__» noKeywords Builtin.Frozenset.updateFrom
        generalize hPI : pyIter = PI
        wp_walk
        subst hPI
        refine wpAny_pyIter_list hl1 (wpAny_bind (wpAny_runValue ?_))
        have below : l < s.heap.objs.size := Heap.lt_size ol
        have sz1 : (s.heap.push (set0 led)).objs.size = s.heap.objs.size + 1 := Heap.size_push _ _
        have n1 : l ≠ (s.heap.push (set0 led)).objs.size := by
          rw [sz1]
          exact Nat.ne_of_lt (Nat.lt_succ_of_lt below)
        have out : s.heap.objs.size ∉ [(s.heap.push (set0 led)).objs.size, l] := by
          rw [sz1]
          simp only [List.mem_cons, List.not_mem_nil, or_false, not_or]
          exact ⟨Nat.ne_of_lt (Nat.lt_succ_self _), Nat.ne_of_gt below⟩
        have size : xs.length = its.size := by rw [← StrsAre.len_eq hi, Array.length_toList]
        have vals : ∀ (i : Nat) (v : Value), its[i]? = some v → ∃ t, v = .str (xs.getD i Str.empty) t := fun i v z => SS.strs_at hi i v (by rw [Array.getElem?_toList]; exact z)
        refine set_loop ((Walks.list (show A.in1.in1.in1.handled = none by simp [calm]) _ l n1 its).toS) s.heap.objs.size out xs size (by rw [← size]; exact room) vals its.size 0 _ (by omega) ⟨⟨_, Heap.get?_push_size _ rfl, rfl, rfl⟩, (hl1.push _)⟩ ?start ?stop
        case start =>
          have g1 : ((s.heap.push (set0 led)).push { cls := .type "list_iterator", data := .fields #[.ref l, .int 0 0] }).get? s.heap.objs.size = some (set0 led) := Heap.get?_push_of_some _ g0
          exact SetOf_congr ((setObjOf_fresh (knd := PySem.strKind prog w) led).setOf g1 (by unfold scanBound; omega)) (fun _ => rfl) rfl
        case stop =>
          rintro ⟨h2, g2, d2, tk2, os2⟩ mv hS
          obtain rfl : g2 = s.gens := mv.gens
          obtain rfl : d2 = s.drawn := mv.drawn
          obtain rfl : os2 = s.os := mv.os
          refine wpAny_pure (?_ : wpAny _ _ (ret Value.none) _ _ _)
          refine wpAny_pure ⟨rfl, h2, tk2, rfl, hS, fun b o hb z => mv.heap b o ?_ (Heap.get?_push_of_some _ (Heap.get?_push_of_some _ z))⟩
          simp only [List.mem_cons, List.not_mem_nil, or_false, not_or]
          exact ⟨Nat.ne_of_lt hb, by rw [sz1]; exact Nat.ne_of_lt (Nat.lt_succ_of_lt hb)⟩
      · cases r2 with
        | error e => exact hr2
        | ok fl2 =>
          cases fl2 with
          | next => exact hr2.elim
          | brk => exact hr2.elim
          | cont => exact hr2.elim
          | ret r =>
            obtain ⟨rfl, h2, tk, rfl, hS, keep⟩ := hr2
            repeat (any_goals (first | assumption | wp_step))
            exact q _ _ hS keep
end
/-- len(set(xs)) -/
def tLenSetS (K : PySem.W.Frag) (ta : TE) : TE := fun σ H Q => ta σ H fun x H1 => ∃ (l : Addr) (xs : List Str), x = .ref l ∧ SqL K H1 l (xs.map V.str) ∧ xs.length ≤ 1000 ∧ Q (.int ((dd xs).length : Nat)) H1
theorem pe_lenSetS {X : Cx} (K : PySem.W.Frag) {a : Expr} {ta : TE} {p p2 q pos : Pos} (hc : X.calm = true) (hm : X.mg "len" = none) (hm2 : X.mg "set" = none) (ha : PE X a ta) (hk : X.K = K := by rfl) (hg : Gl X "len" := by rfl) (hg2 : Gl X "set" := by rfl)
    (na : starEach [a] X.env = (false, eval a X.env) :: starEach [] X.env := by rfl) : PE X (.Call (.Name "len" p) [.Call (.Name "set" p2) [a] [] q] [] pos) (tLenSetS K ta) := by
  subst hk
  refine ⟨fun pins s σ H Q I h => ?_⟩
  refine Call_ (ld_blt I hg hm boot_len (PyProof.Rows.callWith_builtin1 (PyProof.Rows.args_cons ?_ rfl) rfl rfl))
  refine Call_ (ld_blt I hg2 hm2 boot_set ?_)
  refine PyProof.Rows.callWith_type1 (PyProof.Rows.args_cons (thn (ha.run pins s σ H _ I h) fun v s1 ⟨x, H1, I1, r1, q1⟩ => PyProof.Rows.args_nil ?_) na) na rfl
  obtain ⟨l, xs, rfl, hq, small, q1⟩ := q1
  cases r1
  obtain ⟨its, r, pl, hz⟩ := I1.list hq
  refine set_of_list (I1.ok.hd hc) pl.isList (by simpa using strsAre_of r) (by unfold scanBound; omega) fun h2 tk hS keep => PyProof.Rows.args_nil ?_
  obtain ⟨o, es, ep, t, ho, hex, hd, _, _, _, hf, hn⟩ := hS
  have I2 : Inv X pins σ H1 { s1 with heap := h2, toks := tk } := I1.kept fun b o e => keep b o (Heap.lt_size e) e
  have few := dd_le xs []
  have few2 : (dd xs).length ≤ xs.length := by simpa [dd] using few
  exact call_len_set ho hex hd hf (by rw [hn]; omega) ⟨.int ((dd xs).length : Nat), H1, I2.tok _, ⟨_, by rw [hn]⟩, q1⟩
end Dear

namespace Dear
open PySem PySem.Spec PyProof.Rows L2
/-! ### data, and how the heap bears them -/
inductive D where
  | non | bl (b : Bool) | int (i : Int) | str (z : Str) | lst (ds : List D) | tup (ds : List D) | dct
def kind : D → String
  | .non => "NoneType" | .bl _ => "bool" | .int _ => "int" | .str _ => "str" | .lst _ => "list" | .tup _ => "tuple" | .dct => "dict"
mutual
inductive Dt (H : Hp) : V → D → Prop
  | non : Dt H .non .non
  | bl (b : Bool) : Dt H (.bl b) (.bl b)
  | int (i : Int) : Dt H (.int i) (.int i)
  | str (z : Str) : Dt H (.str z) (.str z)
  | lst {a : Addr} {xs : List V} {ds : List D} : H a = some (.lst xs) → DtAll H xs ds → Dt H (.ref a) (.lst ds)
  | tup {a : Addr} {xs : List V} {ds : List D} : H a = some (.tup xs) → DtAll H xs ds → Dt H (.ref a) (.tup ds)
  | dct {a : Addr} {kvs : List (Key × V)} : H a = some (.dK kvs) → Dt H (.ref a) .dct
inductive DtAll (H : Hp) : List V → List D → Prop
  | nil : DtAll H [] []
  | cons {v : V} {vs : List V} {d : D} {ds : List D} : Dt H v d → DtAll H vs ds → DtAll H (v :: vs) (d :: ds)
end
mutual
theorem Dt.same {H H' : Hp} (s : Same H H') : ∀ {v : V} {d : D}, Dt H v d → Dt H' v d
  | _, _, .non => .non
  | _, _, .bl b => .bl b
  | _, _, .int i => .int i
  | _, _, .str z => .str z
  | _, _, .lst h a => .lst (s _ _ h) (DtAll.same s a)
  | _, _, .tup h a => .tup (s _ _ h) (DtAll.same s a)
  | _, _, .dct h => .dct (s _ _ h)
theorem DtAll.same {H H' : Hp} (s : Same H H') : ∀ {vs : List V} {ds : List D}, DtAll H vs ds → DtAll H' vs ds
  | _, _, .nil => .nil
  | _, _, .cons a b => .cons (Dt.same s a) (DtAll.same s b)
end
theorem DtAll.length {H : Hp} : ∀ {vs : List V} {ds : List D}, DtAll H vs ds → vs.length = ds.length
  | _, _, .nil => rfl
  | _, _, .cons _ b => by rw [List.length_cons, List.length_cons, DtAll.length b]
theorem DtAll.get {H : Hp} : ∀ {vs : List V} {ds : List D} {i : Nat} {v : V}, DtAll H vs ds → vs[i]? = some v → ∃ d, ds[i]? = some d ∧ Dt H v d
  | _, _, _, _, .nil, e => by simp at e
  | _, _, 0, _, .cons a _, e => by
    simp at e
    subst e
    exact ⟨_, rfl, a⟩
  | _, _, i + 1, v, .cons _ b, e => by
    obtain ⟨d, h1, h2⟩ := DtAll.get (i := i) (v := v) b (by simpa using e)
    exact ⟨d, by simpa using h1, h2⟩
theorem DtAll.app {H : Hp} : ∀ {vs us : List V} {ds es : List D}, DtAll H vs ds → DtAll H us es → DtAll H (vs ++ us) (ds ++ es)
  | _, _, _, _, .nil, s => s
  | _, _, _, _, .cons a b, s => .cons a (DtAll.app b s)
theorem DtAll.map {α : Type} {H : Hp} {f : α → V} {g : α → D} (h : ∀ a, Dt H (f a) (g a)) : ∀ l : List α, DtAll H (l.map f) (l.map g)
  | [] => .nil
  | a :: l => .cons (h a) (DtAll.map h l)
theorem Dt.ty {K : PySem.W.Frag} {H : Hp} {v : V} {d : D} (h : Dt H v d) : TyX K H v (.type (kind d)) := by
  cases h with
  | non => exact .base .non
  | bl b => exact .base (.bl b)
  | int i => exact .base (.int i)
  | str z => exact .base (.str z)
  | lst h _ => exact .base (.lst h)
  | tup h _ => exact .base (.tup h)
  | dct h => exact .base (.dK h)
/-! ### a heap without one object -/
def Off (l : Addr) (H : Hp) : Hp := fun b => if b = l then none else H b
theorem Off.sub (l : Addr) (H : Hp) : Same (Off l H) H := fun b o e => by
  unfold Off at e
  by_cases h : b = l
  · rw [if_pos h] at e
    cases e
  · rw [if_neg h] at e
    exact e
theorem off_ne {l b : Addr} {H : Hp} (h : b ≠ l) : Off l H b = H b := if_neg h
theorem But.off {l : Addr} {H H' : Hp} (a : But l H H') : Same (Off l H) (Off l H') := fun b o e => by
  by_cases h : b = l
  · have z := (if_pos h).symm.trans e
    cases z
  · rw [off_ne h] at e ⊢
    exact a b o e h
theorem sOff {l : Addr} {H H' : Hp} (a : Same H H') : Same (Off l H) (Off l H') := (But.of a).off
theorem Dt.on {l : Addr} {H : Hp} {v : V} {d : D} (h : Dt (Off l H) v d) : Dt H v d := h.same (Off.sub l H)
/-! ### what a display makes -/
def Mk (l : Addr) (σ : L2.St) (t : TE) (H : Hp) (d : D) : Prop := ∀ H1, Same H H1 → ∀ Q : VK, (∀ v H2, Same H1 H2 → Dt (Off l H2) v d → Q v H2) → t σ H1 Q
def MkA (l : Addr) (σ : L2.St) (t : TA) (H : Hp) (ds : List D) : Prop := ∀ H1, Same H H1 → ∀ Q : List V → Hp → Prop, (∀ vs H2, Same H1 H2 → DtAll (Off l H2) vs ds → Q vs H2) → t σ H1 Q
section
variable {l : Addr} {σ : L2.St} {H : Hp}
theorem mk_c {v : V} {d : D} (h : Dt (Off l H) v d) : Mk l σ (tC v) H d := fun H1 s _ q => q v H1 (Same.refl _) (h.same (sOff s))
theorem mk_var {i : Nat} {v : V} {d : D} (e : σ[i]? = some (some v)) (h : Dt (Off l H) v d) : Mk l σ (tVar i) H d := fun H1 s _ q => ⟨v, e, q v H1 (Same.refl _) (h.same (sOff s))⟩
theorem mka_nil : MkA l σ tNil H [] := fun H1 _ _ q => q [] H1 (Same.refl _) .nil
theorem mka_cons {t : TE} {u : TA} {d : D} {ds : List D} (h1 : Mk l σ t H d) (h2 : MkA l σ u H ds) : MkA l σ (tCons t u) H (d :: ds) := fun H1 s Q q => by
  refine h1 H1 s _ fun v H2 s2 d2 => ?_
  refine h2 H2 (s.trans s2) _ fun vs H3 s3 d3 => ?_
  exact q (v :: vs) H3 (s2.trans s3) (.cons (d2.same (sOff s3)) d3)
theorem sz_lit {n : Nat} (h : n ≤ 1000) : n ≤ sizeLine := Nat.le_of_lt (small1000 h)
theorem mk_tup {u : TA} {ds : List D} (h : MkA l σ u H ds) {o : HO} (hl : H l = some o) (hz : Nat.ble ds.length 1000 = true := by rfl) : Mk l σ (tTup u) H (.tup ds) := fun H1 s Q q => by
  refine h H1 s _ fun vs H2 s2 d2 => ?_
  refine ⟨sz_lit (by rw [d2.length]; exact Nat.le_of_ble_eq_true hz), fun p hp => ?_⟩
  have ne : p ≠ l := fun e => by
    subst e
    rw [s2 _ _ (s _ _ hl)] at hp
    cases hp
  exact q (.ref p) _ (s2.trans (Same.upd hp)) (.tup (by rw [off_ne ne]; exact upd_same) (d2.same (sOff (Same.upd hp))))
theorem mk_lst {u : TA} {ds : List D} (h : MkA l σ u H ds) {o : HO} (hl : H l = some o) (hz : Nat.ble ds.length 1000 = true := by rfl) : Mk l σ (tLst u) H (.lst ds) := fun H1 s Q q => by
  refine h H1 s _ fun vs H2 s2 d2 => ?_
  refine ⟨sz_lit (by rw [d2.length]; exact Nat.le_of_ble_eq_true hz), fun p hp => ?_⟩
  have ne : p ≠ l := fun e => by
    subst e
    rw [s2 _ _ (s _ _ hl)] at hp
    cases hp
  exact q (.ref p) _ (s2.trans (Same.upd hp)) (.lst (by rw [off_ne ne]; exact upd_same) (d2.same (sOff (Same.upd hp))))
theorem mk_dnew {o : HO} (hl : H l = some o) : Mk l σ tDNewK H .dct := fun H1 s Q q p hp => by
  have ne : p ≠ l := fun e => by
    subst e
    rw [s _ _ hl] at hp
    cases hp
  exact q (.ref p) _ (Same.upd hp) (.dct (by rw [off_ne ne]; exact upd_same))
theorem mk_neg {i : Int} : Mk l σ (tUn (rU fun i => .int (-i)) (tC (.int i))) H (.int (-i)) := fun H1 _ _ q => ⟨i, rfl, q _ H1 (Same.refl _) (.int _)⟩
/-- {k: v} -/
theorem mk_disp1 {o : HO} {k : Int} {v : V} (hl : H l = some o) : Mk l σ (tDisp [(tC (.int k), tC v)]) H .dct := fun H1 s Q q p hp => by
  have ne : p ≠ l := fun e => by
    subst e
    rw [s _ _ hl] at hp
    cases hp
  refine ⟨upd_same, [(.inl k, v)], rfl, (by show 1 ≤ 15; decide), ?_⟩
  rw [upd_upd]
  exact q (.ref p) _ (Same.upd hp) (.dct (by rw [off_ne ne]; exact upd_same))
theorem Mk.go {t : TE} {d : D} (h : Mk l σ t H d) {Q : VK} (q : ∀ v H2, Same H H2 → Dt (Off l H2) v d → Q v H2) : t σ H Q := h H (Same.refl H) Q q
/-- xs + [..] -/
theorem mk_cat {t u : TE} {ds es : List D} (h1 : Mk l σ t H (.lst ds)) (h2 : Mk l σ u H (.lst es)) {o : HO} (hl : H l = some o) (hz : Nat.ble (ds.length + es.length) 1000 = true := by rfl) : Mk l σ (tOp rCat t u) H (.lst (ds ++ es)) := fun H1 s Q q => by
  refine h1 H1 s _ fun v H2 s2 d2 => ?_
  refine h2 H2 (s.trans s2) _ fun v3 H3 s3 d3 => ?_
  cases d2 with
  | lst ha2 hall2 =>
    cases d3 with
    | lst ha3 hall3 =>
      have ha2' := s3 _ _ (Off.sub _ _ _ _ ha2)
      have ha3' := Off.sub _ _ _ _ ha3
      refine ⟨_, _, _, _, rfl, rfl, ha2', ha3', sz_lit (by rw [hall2.length, hall3.length]; exact Nat.le_of_ble_eq_true hz), fun p hp => ?_⟩
      have ne : p ≠ l := fun e => by
        subst e
        rw [s3 _ _ (s2 _ _ (s _ _ hl))] at hp
        cases hp
      exact q (.ref p) _ ((s2.trans s3).trans (Same.upd hp)) (.lst (by rw [off_ne ne]; exact upd_same) (((hall2.same (sOff s3)).app hall3).same (sOff (Same.upd hp))))
end
/-! ### sizes of data -/
abbrev Asc (z : Str) : Prop := ∀ c ∈ z.cps.toList, c < 128
mutual
def Ok : D → Prop
  | .int i => i.natAbs < 2 ^ 300
  | .str z => z.length ≤ 3000 ∧ Asc z
  | .lst ds => OkAll ds
  | .tup ds => OkAll ds
  | _ => True
def OkAll : List D → Prop
  | [] => True
  | d :: ds => Ok d ∧ OkAll ds
end
theorem OkAll.mem : ∀ {ds : List D} {d : D}, OkAll ds → d ∈ ds → Ok d
  | [], _, _, m => by simp at m
  | e :: r, d, h, m => by
    rcases List.mem_cons.mp m with rfl | m
    · exact h.1
    · exact OkAll.mem h.2 m
/-- places of a list -/
theorem at_lt {α : Type} {xs : List α} {r : Int} (h0 : 0 ≤ r) (h1 : r < xs.length) : ∃ v, atI xs r = some v ∧ v ∈ xs ∧ xs[r.toNat]? = some v := by
  obtain ⟨n, rfl⟩ := Int.eq_ofNat_of_zero_le h0
  have hn : n < xs.length := by omega
  exact ⟨xs[n], atI_nat (by simp [hn]), List.getElem_mem hn, by simp [hn]⟩
/-! ### the law's draws -/
def Src (H : Hp) (l : Addr) : Prop := ∃ n s : Int, H l = some (.lst [.int n, .int s]) ∧ 0 ≤ n ∧ 0 ≤ s ∧ s < 2147483647
theorem Src.same {H H' : Hp} {l : Addr} (h : Src H l) (s : Same H H') : Src H' l := by
  obtain ⟨n, z, e, r⟩ := h
  exact ⟨n, z, s _ _ e, r⟩
theorem Src.some {H : Hp} {l : Addr} (h : Src H l) : ∃ o, H l = Option.some o := by
  obtain ⟨n, z, e, r⟩ := h
  exact ⟨_, e⟩
theorem Src.ne {H : Hp} {l p : Addr} (h : Src H l) (hp : H p = none) : p ≠ l := fun e => by
  obtain ⟨o, ho⟩ := h.some
  rw [e, ho] at hp
  cases hp
theorem bit_lt (k : Bool) : -(2 ^ 64) < (if k = true then 1 else 0 : Int) ∧ (if k = true then 1 else 0 : Int) < 2 ^ 64 := by
  cases k <;> decide
theorem bit_ge (k : Bool) : 0 ≤ (if k = true then 1 else 0 : Int) := by
  cases k <;> decide
def spSource : Sp := fun vs H Q _ => ∃ (c k : Int), vs = [.int c, .int k] ∧ ∀ (l : Addr) (H' : Hp), H l = none → Same H H' → Src H' l → Q (.ref l) H'
def spDraw : Sp := fun vs H Q _ => ∃ (l : Addr) (m : Int), vs = [.ref l, .int m] ∧ Src H l ∧ 0 < m ∧ m.natAbs.log2 < 9000 ∧ ∀ (r : Int) (H' : Hp), 0 ≤ r → r < m → But l H H' → Src H' l → Q (.int r) H'
theorem log_small {m : Int} {n : Nat} (h0 : 0 < n) (h : m.natAbs < 2 ^ n) (hn : n ≤ 9000) : m.natAbs.log2 < 9000 := Nat.lt_of_lt_of_le (PySem.Flt.log2_lt_of h0 h) hn
end Dear

namespace Dear
open PySem PySem.Spec PyProof.Rows L2
/-! ### kinds of things -/
def isInt : D → Bool
  | .int _ => true
  | _ => false
def isBl : D → Bool
  | .bl _ => true
  | _ => false
def isStr : D → Bool
  | .str _ => true
  | _ => false
def isLst : D → Bool
  | .lst _ => true
  | _ => false
def isTup : D → Bool
  | .tup _ => true
  | _ => false
def isDct : D → Bool
  | .dct => true
  | _ => false
theorem kd_int : ∀ d : D, kitB (kind d) "int" = some (isInt d || isBl d)
  | .non => (by decide +kernel : kitB "NoneType" "int" = some false)
  | .bl _ => (by decide +kernel : kitB "bool" "int" = some true)
  | .int _ => (by decide +kernel : kitB "int" "int" = some true)
  | .str _ => (by decide +kernel : kitB "str" "int" = some false)
  | .lst _ => (by decide +kernel : kitB "list" "int" = some false)
  | .tup _ => (by decide +kernel : kitB "tuple" "int" = some false)
  | .dct => (by decide +kernel : kitB "dict" "int" = some false)
theorem kd_bool : ∀ d : D, kitB (kind d) "bool" = some (isBl d)
  | .non => (by decide +kernel : kitB "NoneType" "bool" = some false)
  | .bl _ => (by decide +kernel : kitB "bool" "bool" = some true)
  | .int _ => (by decide +kernel : kitB "int" "bool" = some false)
  | .str _ => (by decide +kernel : kitB "str" "bool" = some false)
  | .lst _ => (by decide +kernel : kitB "list" "bool" = some false)
  | .tup _ => (by decide +kernel : kitB "tuple" "bool" = some false)
  | .dct => (by decide +kernel : kitB "dict" "bool" = some false)
theorem kd_str : ∀ d : D, kitB (kind d) "str" = some (isStr d)
  | .non => (by decide +kernel : kitB "NoneType" "str" = some false)
  | .bl _ => (by decide +kernel : kitB "bool" "str" = some false)
  | .int _ => (by decide +kernel : kitB "int" "str" = some false)
  | .str _ => (by decide +kernel : kitB "str" "str" = some true)
  | .lst _ => (by decide +kernel : kitB "list" "str" = some false)
  | .tup _ => (by decide +kernel : kitB "tuple" "str" = some false)
  | .dct => (by decide +kernel : kitB "dict" "str" = some false)
theorem kd_list : ∀ d : D, kitB (kind d) "list" = some (isLst d)
  | .non => (by decide +kernel : kitB "NoneType" "list" = some false)
  | .bl _ => (by decide +kernel : kitB "bool" "list" = some false)
  | .int _ => (by decide +kernel : kitB "int" "list" = some false)
  | .str _ => (by decide +kernel : kitB "str" "list" = some false)
  | .lst _ => (by decide +kernel : kitB "list" "list" = some true)
  | .tup _ => (by decide +kernel : kitB "tuple" "list" = some false)
  | .dct => (by decide +kernel : kitB "dict" "list" = some false)
theorem kd_tuple : ∀ d : D, kitB (kind d) "tuple" = some (isTup d)
  | .non => (by decide +kernel : kitB "NoneType" "tuple" = some false)
  | .bl _ => (by decide +kernel : kitB "bool" "tuple" = some false)
  | .int _ => (by decide +kernel : kitB "int" "tuple" = some false)
  | .str _ => (by decide +kernel : kitB "str" "tuple" = some false)
  | .lst _ => (by decide +kernel : kitB "list" "tuple" = some false)
  | .tup _ => (by decide +kernel : kitB "tuple" "tuple" = some true)
  | .dct => (by decide +kernel : kitB "dict" "tuple" = some false)
theorem kd_dict : ∀ d : D, kitB (kind d) "dict" = some (isDct d)
  | .non => (by decide +kernel : kitB "NoneType" "dict" = some false)
  | .bl _ => (by decide +kernel : kitB "bool" "dict" = some false)
  | .int _ => (by decide +kernel : kitB "int" "dict" = some false)
  | .str _ => (by decide +kernel : kitB "str" "dict" = some false)
  | .lst _ => (by decide +kernel : kitB "list" "dict" = some false)
  | .tup _ => (by decide +kernel : kitB "tuple" "dict" = some false)
  | .dct => (by decide +kernel : kitB "dict" "dict" = some true)
/-! ### is_whole, divisor, lowest, is_fraction, is_name -/
def spWhole : Sp := fun vs H Q _ => ∃ (v : V) (d : D), vs = [v] ∧ Dt H v d ∧ Q (.bl (isInt d)) H
def spDivisor : Sp := fun vs H Q _ => ∃ (a b : Int), vs = [.int a, .int b] ∧ 0 ≤ a ∧ 0 ≤ b ∧ Q (.int (Int.gcd a b)) H
/-- in lowest terms -/
def lowT (t b : Int) : Int := t / (Int.gcd b t : Int)
def lowB (t b : Int) : Int := b / (Int.gcd b t : Int)
def spLowest : Sp := fun vs H Q _ => ∃ (t b : Int), vs = [.int t, .int b] ∧ 0 < b ∧ b.natAbs.log2 < 9000 ∧ ∀ (p : Addr) (H' : Hp), H p = none → Same H H' → H' p = some (.tup [.int (lowT t b), .int (lowB t b)]) → Q (.ref p) H'
def isFr : D → Bool
  | .tup [.int t, .int b] => decide (0 < b) && (Int.gcd b t == 1)
  | _ => false
theorem isFr_len : ∀ {ds : List D}, ds.length ≠ 2 → isFr (.tup ds) = false
  | [], _ => rfl
  | [d], _ => by cases d <;> rfl
  | [_, _], h => absurd rfl h
  | d :: e :: _ :: _, _ => by cases d <;> cases e <;> rfl
def spFr : Sp := fun vs H Q _ => ∃ (v : V) (d : D), vs = [v] ∧ Dt H v d ∧ Ok d ∧ ∀ H', Same H H' → Q (.bl (isFr d)) H'
def letters : Str := "abcdefghijklmnopqrstuvwxyz"
def isNm : D → Bool
  | .str z => decide (1 ≤ z.length ∧ z.length ≤ 8) && z.cps.toList.all fun c => decide (c ∈ letters.cps.toList)
  | _ => false
def spNm : Sp := fun vs H Q _ => ∃ (v : V) (d : D), vs = [v] ∧ Dt H v d ∧ Ok d ∧ ∀ H', Same H H' → Q (.bl (isNm d)) H'
theorem gcd_step {a b : Int} (h0 : 0 ≤ a) (h : 0 < b) : Int.gcd b (a % b) = Int.gcd a b := by
  obtain ⟨m, rfl⟩ := Int.eq_ofNat_of_zero_le h0
  obtain ⟨n, rfl⟩ := Int.eq_ofNat_of_zero_le (Int.le_of_lt h)
  show Nat.gcd n (((m : Int) % (n : Int)).natAbs) = Nat.gcd m n
  rw [← Int.natCast_emod, Int.natAbs_natCast, Nat.gcd_comm n, ← Nat.gcd_rec, Nat.gcd_comm]
theorem abs_if (t : Int) : (if t < 0 then -t else t) = (t.natAbs : Int) := by
  split <;> omega
theorem gcd_abs (b t : Int) : Int.gcd b (t.natAbs : Int) = Int.gcd b t := by
  show Nat.gcd b.natAbs ((t.natAbs : Int).natAbs) = Nat.gcd b.natAbs t.natAbs
  rw [Int.natAbs_natCast]
theorem gcd_pos {b : Int} (t : Int) (h : 0 < b) : 0 < (Int.gcd b t : Int) := by
  have h1 : 0 < Int.gcd b t := Nat.gcd_pos_of_pos_left _ (by omega)
  omega
theorem gcd_le {b : Int} (t : Int) (h : 0 < b) : (Int.gcd b t : Int) ≤ b := by
  have h1 : Int.gcd b t ≤ b.natAbs := Nat.le_of_dvd (by omega) (Nat.gcd_dvd_left _ _)
  omega
theorem gcd_log {b : Int} (t : Int) (h : 0 < b) (hl : b.natAbs.log2 < 9000) : ((Int.gcd b t : Nat) : Int).natAbs.log2 < 9000 := by
  have h1 := gcd_le t h
  have h2 : b.natAbs < 2 ^ 9000 := Nat.lt_of_lt_of_le Nat.lt_log2_self (Nat.pow_le_pow_right (by decide) hl)
  have h3 : ((Int.gcd b t : Nat) : Int).natAbs < 2 ^ 9000 := Nat.lt_of_le_of_lt (by omega) h2
  exact PySem.Flt.log2_lt_of (by decide) h3
/-- a fraction is in lowest terms just where it is what lowest makes of it -/
theorem low_eq {t b : Int} (h : 0 < b) : ((lowT t b == t) && (lowB t b == b)) = (Int.gcd b t == 1) := by
  have g0 := gcd_pos t h
  by_cases e : Int.gcd b t = 1
  · have e1 : lowT t b = t := by unfold lowT; rw [e]; exact Int.ediv_one t
    have e2 : lowB t b = b := by unfold lowB; rw [e]; exact Int.ediv_one b
    rw [e1, e2, e]
    simp
  · have e3 : lowB t b ≠ b := by
      unfold lowB
      have g2 : (Int.gcd b t : Int) ≠ 1 := by omega
      have := Int.ediv_lt_self_of_pos_of_ne_one h g2
      omega
    have e4 : (lowB t b == b) = false := by simpa using e3
    have e5 : (Int.gcd b t == 1) = false := by simpa using e
    rw [e4, e5, Bool.and_false]
/-! ### texts -/
theorem in_letters_asc {c : Nat} (h : c ∈ letters.cps.toList) : c < 128 := by
  have : ∀ c ∈ letters.cps.toList, c < 128 := by decide +kernel
  exact this c h
end Dear

namespace Dear
open PySem PySem.Spec PyProof.Rows L2
/-! ### texts and lists of texts -/
theorem join_tl (ys : List Str) : (Txt.join "" ys).cps.toList = (ys.map fun y => y.cps.toList).flatten := by
  rw [TL.join_eq]
  have e := TL.tl_join ("" : Str) ys
  have e0 : TL.tl ("" : Str) = [] := by decide +kernel
  rw [e0] at e
  have g : ∀ l : List (List Nat), TL.joinL [] l = l.flatten := by
    intro l
    induction l with
    | nil => rfl
    | cons a r ih =>
      cases r with
      | nil => simp [TL.joinL]
      | cons b r =>
        rw [List.flatten_cons, ← ih]
        simp [TL.joinL]
  rw [g] at e
  exact e
/-- texts of one sign each -/
def Ones (ys : List Str) : Prop := ∀ y ∈ ys, y.length = 1 ∧ Asc y
theorem ones_join {ys : List Str} (h : Ones ys) : (Txt.join "" ys).length = ys.length ∧ Asc (Txt.join "" ys) := by
  constructor
  · rw [TL.len_tl, TL.tl, join_tl]
    induction ys with
    | nil => rfl
    | cons a r ih =>
      rw [List.map_cons, List.flatten_cons, List.length_append, ih fun y hy => h y (List.mem_cons_of_mem _ hy), List.length_cons]
      have h1 := (h a List.mem_cons_self).1
      rw [TL.len_tl] at h1
      have h2 : a.cps.toList.length = 1 := h1
      show a.cps.toList.length + r.length = r.length + 1
      omega
  · intro c hc
    rw [join_tl] at hc
    obtain ⟨l, hl, hc⟩ := List.mem_flatten.mp hc
    obtain ⟨y, hy, rfl⟩ := List.mem_map.mp hl
    exact (h y hy).2 c hc
theorem ones_size {ys : List Str} (h : Ones ys) (hl : ys.length ≤ 1000) : (ys.map (·.length)).sum + ys.length * ("" : Str).length ≤ 16777216 := by
  have e : (ys.map (·.length)).sum = ys.length := by
    clear hl
    induction ys with
    | nil => rfl
    | cons a r ih =>
      rw [List.map_cons, List.sum_cons, ih fun y hy => h y (List.mem_cons_of_mem _ hy), (h a List.mem_cons_self).1, List.length_cons]
      omega
  have e0 : ("" : Str).length = 0 := by decide +kernel
  rw [e, e0]
  omega
theorem dp_strs {K : PySem.W.Frag} {H : Hp} : ∀ ys : List Str, DpAll K H (ys.map V.str) (ys.map PyData.str)
  | [] => .nil
  | y :: ys => .cons (.str y) (dp_strs ys)
theorem strOk_asc {z : Str} (h : Asc z) : PyData.strOk z = true := by
  unfold PyData.strOk
  rw [Array.all_eq_true']
  intro c hc
  have := h c (by simpa using hc)
  simp
  omega
theorem depth_strs : ∀ ys : List Str, PyData.depthAll (ys.map PyData.str) = 0
  | [] => rfl
  | y :: ys => by
    rw [List.map_cons]
    show max (PyData.depth (.str y)) (PyData.depthAll (ys.map PyData.str)) = 0
    rw [depth_strs ys]
    rfl
theorem lay_strs : ∀ {ys : List Str}, (∀ y ∈ ys, Asc y) → PyData.canLayAll0 (ys.map PyData.str) = true
  | [], _ => rfl
  | y :: ys, h => by
    rw [List.map_cons]
    show (PyData.canLay0 (.str y) && PyData.canLayAll0 (ys.map PyData.str)) = true
    rw [lay_strs fun z hz => h z (List.mem_cons_of_mem _ hz), Bool.and_true]
    exact strOk_asc (h y List.mem_cons_self)
theorem shaped_strs {ys : List Str} (h : ∀ y ∈ ys, Asc y) : SeqAt.shaped (.list (ys.map PyData.str)) = true := by
  show (PyData.canLayAll0 (ys.map PyData.str) && decide (PyData.depthAll (ys.map PyData.str) + 1 ≤ 64)) = true
  rw [lay_strs h, depth_strs]
  rfl
theorem shaped_nil : SeqAt.shaped (.list []) = true := by decide +kernel
theorem eqv_nil : ∀ ds : List PyData, PyData.eqv (.list ds) (.list []) = ds.isEmpty
  | [] => by simp [PyData.eqv, PyData.eqvAll]
  | _ :: _ => by simp [PyData.eqv, PyData.eqvAll]
theorem all_empty {α β : Type} (l : List α) (p : α → Bool) (f : α → β) : l.all p = ((l.filter fun c => !p c).map f).isEmpty := by
  induction l with
  | nil => rfl
  | cons a r ih =>
    rw [List.all_cons, ih, List.filter_cons]
    cases p a <;> simp
theorem asc_one {c : Nat} (h : c < 128) : Asc ⟨#[c]⟩ := fun x hx => by
  have : x = c := by simpa using hx
  omega
theorem ixN_lt {n : Nat} {r : Int} (h0 : 0 ≤ r) (h1 : r < n) : ixN n r = some r.toNat := by
  unfold ixN
  rw [if_pos h0, if_pos h1]
theorem off_some {l p : Addr} {H : Hp} {o : HO} (h : Off l H p = some o) : p ≠ l ∧ H p = some o := by
  have ne : p ≠ l := fun e => by
    have z := (if_pos e).symm.trans h
    cases z
  rw [off_ne ne] at h
  exact ⟨ne, h⟩
theorem mem_cut {xs : List V} {lo hi : Option Int} {v : V} (h : v ∈ cutV xs lo hi) : v ∈ xs := List.mem_of_mem_drop (List.mem_of_mem_take h)
theorem get_ints {ns : List Int} {xs : List V} (h : ∀ v ∈ xs, v ∈ ns.map V.int) {i : Nat} {v : V} (e : xs[i]? = some v) : ∃ z, v = .int z ∧ z ∈ ns := by
  have := h v (List.mem_of_getElem? e)
  obtain ⟨z, hz, rfl⟩ := List.mem_map.mp this
  exact ⟨z, rfl, hz⟩
end Dear

namespace Dear
open PySem PySem.Spec PyProof.Rows L2
/-! ### list(text), tuple(text) -/
def sgnsV (z : Str) : List V := z.cps.toList.map fun c => V.str ⟨#[c]⟩
theorem valsAt : ∀ {xs : List V} {us : List Value}, xs.length = us.length → (∀ (j : Nat) (x : V) (u : Value), xs[j]? = some x → us[j]? = some u → RelV x u) → Vals xs us
  | [], [], _, _ => .nil
  | [], _ :: _, h, _ => by simp at h
  | _ :: _, [], h, _ => by simp at h
  | x :: xs, u :: us, h, f => .cons (f 0 x u rfl rfl) (valsAt (by simpa using h) fun j y w h1 h2 => f (j + 1) y w (by simpa using h1) (by simpa using h2))
theorem vals_signs {z : Str} {acc : Array Value} (h : ItemsOf (SignAt z) acc z.cps.size) : Vals (sgnsV z) acc.toList := by
  have el : acc.toList.length = z.cps.size := by rw [Array.length_toList]; exact h.1
  refine valsAt (by unfold sgnsV; rw [List.length_map, el, Array.length_toList]) fun j x u h1 h2 => ?_
  obtain ⟨c, t, e1, e2⟩ := h.2 j u (by rw [← h2, Array.getElem?_toList])
  unfold sgnsV at h1
  rw [List.getElem?_map, Array.getElem?_toList, e1] at h1
  cases h1
  exact ⟨t, e2⟩
section
variable {X : Cx}
def rListTx : List V → Hp → VK → Prop := fun xs H Q => ∃ z, xs = [.str z] ∧ z.length ≤ 1000 ∧ ∀ l, H l = none → Q (.ref l) (upd H l (.lst (sgnsV z)))
def rTupTx : List V → Hp → VK → Prop := fun xs H Q => ∃ z, xs = [.str z] ∧ z.length ≤ 1000 ∧ ∀ l, H l = none → Q (.ref l) (upd H l (.tup (sgnsV z)))
theorem call_list_tx (hc : X.calm = true) : CallR X (.type "list") rListTx := by
  intro pins s σ H xs us Q I r h
  obtain ⟨z, e, hz, q⟩ := h
  subst e
  obtain ⟨u, eu, t, rfl⟩ := vals1 r
  subst eu
  have hz' : z.cps.size ≤ sizeLine := sz_lit hz
  refine call_list_str (hn := hz') (I.ok.hd hc) z t fun h' tk acc c' hk e' hi => ?_
  refine ⟨.ref s.heap.objs.size, upd H s.heap.objs.size (.lst (sgnsV z)), I.laid hk (Nat.le_refl _) (show ObjOk X.prog X.w _ _ _ (.lst (sgnsV z)) from ⟨?_, acc.toList, c', vals_signs hi, ?_⟩), rfl, q _ (I.hok.fresh (Nat.le_refl _))⟩
  · unfold sgnsV
    rw [List.length_map, Array.length_toList]
    exact hz'
  · rw [Array.toArray_toList]; exact e'
theorem call_tuple_tx (hc : X.calm = true) : CallR X (.type "tuple") rTupTx := by
  intro pins s σ H xs us Q I r h
  obtain ⟨z, e, hz, q⟩ := h
  subst e
  obtain ⟨u, eu, t, rfl⟩ := vals1 r
  subst eu
  have hz' : z.cps.size ≤ sizeLine := sz_lit hz
  refine call_tuple_str (hsz := hz') (I.ok.hd hc) z t fun h' tk acc hk hi => ?_
  have I2 : Inv X pins σ H { s with heap := h', toks := tk } := I.kept hk
  refine ⟨.ref h'.objs.size, upd H h'.objs.size (.tup (sgnsV z)), I2.laid (t' := tk) (fun c o e => Heap.get?_push_of_some _ e) (Nat.le_refl _) (show ObjOk X.prog X.w _ _ _ (.tup (sgnsV z)) from ⟨?_, acc.toList, vals_signs hi, ?_⟩), rfl, q _ (I2.hok.fresh (Nat.le_refl _))⟩
  · unfold sgnsV
    rw [List.length_map, Array.length_toList]
    exact hz'
  · rw [Array.toArray_toList]; exact IsTup.new _ _
end
section
variable {l : Addr} {σ : L2.St} {H : Hp}
theorem dt_signs {H : Hp} : ∀ cs : List Nat, DtAll H (cs.map fun c => V.str ⟨#[c]⟩) (cs.map fun c => D.str ⟨#[c]⟩)
  | [] => .nil
  | c :: cs => .cons (.str _) (dt_signs cs)
theorem mk_ltx {i : Nat} {z : Str} {o : HO} (e : σ[i]? = some (some (.str z))) (hz : z.length ≤ 1000) (hl : H l = some o) : Mk l σ (tCB rListTx (tCons (tVar i) tNil)) H (.lst (z.cps.toList.map fun c => D.str ⟨#[c]⟩)) := fun H1 s Q q => by
  refine ⟨_, e, z, rfl, hz, fun p hp => ?_⟩
  have ne : p ≠ l := fun e => by
    subst e
    rw [s _ _ hl] at hp
    cases hp
  exact q (.ref p) _ (Same.upd hp) (.lst (by rw [off_ne ne]; exact upd_same) (dt_signs _))
theorem mk_ttx {i : Nat} {z : Str} {o : HO} (e : σ[i]? = some (some (.str z))) (hz : z.length ≤ 1000) (hl : H l = some o) : Mk l σ (tCB rTupTx (tCons (tVar i) tNil)) H (.tup (z.cps.toList.map fun c => D.str ⟨#[c]⟩)) := fun H1 s Q q => by
  refine ⟨_, e, z, rfl, hz, fun p hp => ?_⟩
  have ne : p ≠ l := fun e => by
    subst e
    rw [s _ _ hl] at hp
    cases hp
  exact q (.ref p) _ (Same.upd hp) (.tup (by rw [off_ne ne]; exact upd_same) (dt_signs _))
end
end Dear

namespace Dear
open PySem PySem.Spec PyProof.Rows L2
/-- law's: a list of at most 63 ints is handed in, True comes out -/
def spLaw (K : PySem.W.Frag) : Sp := fun vs H Q _ => ∃ (a : Addr) (ns : List Int), vs = [.ref a] ∧ SqL K H a (ns.map V.int) ∧ ns.length ≤ 63 ∧ ∀ H', Q (.bl true) H'
end Dear

namespace Dear
open PySem PySem.Spec PyProof.Rows L2
/-! ### what a tongue is, of any thing -/
def topPos : D → Bool
  | .tup (.int t :: _) => decide (0 < t)
  | _ => false
def isPrice (d : D) : Bool := isFr d && topPos d
def isLetter : D → Bool
  | .str z => z.length == 1 && z.cps.toList.all fun c => decide (c ∈ letters.cps.toList)
  | _ => false
def isNon : D → Bool
  | .non => true
  | _ => false
def isSign : D → Bool
  | .tup [s, p, l] => isLetter s && isPrice p && (isNon l || isPrice l)
  | _ => false
def headS : D → Str
  | .tup (.str z :: _) => z
  | _ => Str.empty
def areSigns : D → Bool
  | .lst ds => decide (2 ≤ ds.length ∧ ds.length ≤ 6) && ds.all isSign && (dd (ds.map headS)).length == ds.length
  | _ => false
def sgn (c : Nat) : Str := ⟨#[c]⟩
def unl (n : Int) (L : List Str) : List Str → List D → Bool
  | _, [] => true
  | pre, .str z :: r => decide ((z.length : Int) = n) && !decide (z ∈ pre) && (z.cps.toList.all fun c => decide (sgn c ∈ L)) && unl n L (pre ++ [z]) r
  | _, _ :: _ => false
def unlike (n : Int) (L : List Str) : D → Bool
  | .lst ds => unl n L [] ds
  | _ => false
def heads : D → List Str
  | .lst ds => ds.map headS
  | _ => []
def isLong : D → Bool
  | .int i => decide (1 ≤ i ∧ i ≤ 8)
  | _ => false
def lookOk : D → Bool
  | .tup [s, f, p, l] => areSigns s && unlike 1 (heads s) f && unlike 2 (heads s) p && isLong l
  | _ => false
def spPrice : Sp := fun vs H Q _ => ∃ (v : V) (d : D), vs = [v] ∧ Dt H v d ∧ Ok d ∧ ∀ H', Same H H' → Q (.bl (isPrice d)) H'
def spLetter : Sp := fun vs H Q _ => ∃ (v : V) (d : D), vs = [v] ∧ Dt H v d ∧ Ok d ∧ Q (.bl (isLetter d)) H
def spSign : Sp := fun vs H Q _ => ∃ (v : V) (d : D), vs = [v] ∧ Dt H v d ∧ Ok d ∧ ∀ H', Same H H' → Q (.bl (isSign d)) H'
def spSigns : Sp := fun vs H Q _ => ∃ (v : V) (d : D), vs = [v] ∧ Dt H v d ∧ Ok d ∧ ∀ H', Same H H' → Q (.bl (areSigns d)) H'
def spUnlike : Sp := fun vs H Q _ => ∃ (v : V) (d : D) (n : Int) (b : Addr) (L : List Str), vs = [v, .int n, .ref b] ∧ Dt H v d ∧ Ok d ∧ H b = some (.lst (L.map V.str)) ∧ ∀ H', Same H H' → Q (.bl (unlike n L d)) H'
/-- of a good one: None -/
def spLook : Sp := fun vs H Q _ => ∃ (v : V) (d : D), vs = [v] ∧ Dt H v d ∧ Ok d ∧ lookOk d = true ∧ ∀ H', Same H H' → Q .non H'
theorem str_one {z : Str} (h : z.length = 1) : ∃ c, z = ⟨#[c]⟩ := by
  obtain ⟨⟨l⟩⟩ := z
  match l, h with
  | [c], _ => exact ⟨c, rfl⟩
theorem fr_shape {d : D} (h : isFr d = true) : ∃ t b : Int, d = .tup [.int t, .int b] ∧ 0 < b := by
  match d, h with
  | .tup [.int t, .int b], h =>
    refine ⟨t, b, rfl, ?_⟩
    have h : (decide (0 < b) && (Int.gcd b t == 1)) = true := h
    simp only [Bool.and_eq_true, decide_eq_true_eq] at h
    exact h.1
theorem inV_strs (z : Str) : ∀ ys : List Str, inV (.str z) (ys.map V.str) = decide (z ∈ ys)
  | [] => by simp [inV]
  | y :: ys => by
    have ih := inV_strs z ys
    unfold inV at ih ⊢
    rw [List.map_cons, List.any_cons, ih]
    by_cases e : y = z
    · subst e
      simp [eqV]
    · have e' : ¬ z = y := fun q => e q.symm
      have h1 : eqV (.str y) (.str z) = false := by simp [eqV, e]
      simp [h1, e']
theorem flat_str (ys : List Str) : (ys.map V.str).all flatV = true := by
  rw [List.all_eq_true]
  intro x hx
  obtain ⟨y, _, rfl⟩ := List.mem_map.mp hx
  rfl
end Dear

namespace Dear
open PySem PySem.Spec PyProof.Rows L2
/-! ### slices of texts -/
/-- the text of these code points -/
def txt (l : List Nat) : Str := ⟨l.toArray⟩
theorem txt_list (l : List Nat) : (txt l).cps.toList = l := List.toList_toArray ..
theorem txt_length (l : List Nat) : (txt l).length = l.length := List.size_toArray ..
theorem txt_of (z : Str) : z = txt z.cps.toList := by
  cases z
  rfl
theorem txt_inj {a b : List Nat} (h : txt a = txt b) : a = b := by
  have := congrArg (fun z : Str => z.cps.toList) h
  simpa [txt_list] using this
theorem txt_app (a b : List Nat) : txt a ++ txt b = txt (a ++ b) := by
  show (⟨a.toArray ++ b.toArray⟩ : Str) = ⟨(a ++ b).toArray⟩
  simp
theorem cut_txt (l : List Nat) (lo hi : Option Int) : cutS (txt l) lo hi = txt ((l.drop (HT.sIx l.length 0 lo)).take (HT.sIx l.length l.length hi - HT.sIx l.length 0 lo)) := by
  unfold cutS
  rw [txt_list, txt_length]
  rfl
theorem cut_pre (l : List Nat) (j : Nat) : cutS (txt l) none (some (j : Int)) = txt (l.take j) := by
  rw [cut_txt, HT.sIx_none, HT.sIx_nat, List.drop_zero, Nat.sub_zero]
  congr 1
  by_cases h : j ≤ l.length
  · rw [Nat.min_eq_left h]
  · rw [Nat.min_eq_right (by omega), List.take_length, List.take_of_length_le (by omega)]
theorem cut_from (l : List Nat) (j : Nat) : cutS (txt l) (some (j : Int)) none = txt (l.drop j) := by
  rw [cut_txt, HT.sIx_none, HT.sIx_nat]
  congr 1
  by_cases h : j ≤ l.length
  · rw [Nat.min_eq_left h, List.take_of_length_le (by rw [List.length_drop]; exact Nat.le_refl _)]
  · rw [Nat.min_eq_right (by omega), List.drop_length, List.drop_of_length_le (by omega), List.take_nil]
theorem cut_last0 : cutS (txt []) (some (-1)) none = "" := by decide +kernel
theorem cut_last (l : List Nat) (c : Nat) : cutS (txt (l ++ [c])) (some (-1)) none = txt [c] := by
  rw [cut_txt, HT.sIx_none]
  have e1 : HT.sIx (l ++ [c]).length 0 (some (-1)) = l.length := by
    show (if (-1 : Int) < 0 then (-1 + ((l ++ [c]).length : Int)).toNat else min (-1 : Int).toNat (l ++ [c]).length) = l.length
    rw [if_pos (by decide), List.length_append]
    show (-1 + ((l.length + 1 : Nat) : Int)).toNat = _
    omega
  rw [e1, List.drop_left, List.take_of_length_le]
  rw [List.length_append]
  show 1 ≤ l.length + 1 - l.length
  omega
theorem cut_init {l : List Nat} {e : Nat} : cutS (txt (l ++ [e])) none (some (-1)) = txt l := by
  have e1 : HT.sIx (l ++ [e]).length (l ++ [e]).length (some (-1)) = l.length := by
    show (if (-1 : Int) < 0 then (-1 + ((l ++ [e]).length : Int)).toNat else min (-1 : Int).toNat (l ++ [e]).length) = l.length
    rw [if_pos (by decide), List.length_append]
    show (-1 + ((l.length + 1 : Nat) : Int)).toNat = _
    omega
  rw [cut_txt, HT.sIx_none, e1, List.drop_zero, Nat.sub_zero, List.take_left]
theorem at_last {l : List Nat} {e : Nat} : atI (txt (l ++ [e])).cps.toList (-1) = some e := by
  rw [txt_list]
  unfold atI ixN
  rw [if_neg (by decide), if_pos (by rw [List.length_append]; show -((l.length + 1 : Nat) : Int) ≤ -1; omega)]
  have e1 : (-1 + ((l ++ [e]).length : Int)).toNat = l.length := by
    rw [List.length_append]
    show (-1 + ((l.length + 1 : Nat) : Int)).toNat = _
    omega
  rw [e1]
  show (l ++ [e])[l.length]? = some e
  rw [List.getElem?_append_right (Nat.le_refl _), Nat.sub_self]
  rfl
theorem sgn_txt (c : Nat) : sgn c = txt [c] := rfl
theorem txt_snoc (l : List Nat) (c : Nat) : txt l ++ sgn c = txt (l ++ [c]) := by
  show (⟨l.toArray ++ #[c]⟩ : Str) = ⟨(l ++ [c]).toArray⟩
  simp
/-- the sign ahead of the j-th one -/
def aheadOf (l : List Nat) (j : Nat) : Str := cutS (cutS (txt l) none (some (j : Int))) (some (-1)) none
theorem ahead_zero (l : List Nat) : aheadOf l 0 = "" := by
  unfold aheadOf
  rw [cut_pre, List.take_zero]
  exact cut_last0
theorem ahead_succ {l : List Nat} {j : Nat} {c : Nat} (h : l[j]? = some c) : aheadOf l (j + 1) = txt [c] := by
  unfold aheadOf
  rw [cut_pre, List.take_add_one, h, Option.toList_some, cut_last]
end Dear

namespace Dear
open PySem PySem.Spec PyProof.Rows L2
/-! ### data of tuples alone: they stay whatever lists are changed -/
mutual
def Pu : D → Prop
  | .lst _ => False
  | .dct => False
  | .tup ds => PuAll ds
  | _ => True
def PuAll : List D → Prop
  | [] => True
  | d :: ds => Pu d ∧ PuAll ds
end
def TP (H H' : Hp) : Prop := ∀ b xs, H b = some (.tup xs) → H' b = some (.tup xs)
theorem TP.refl (H : Hp) : TP H H := fun _ _ h => h
theorem TP.trans {H H1 H2 : Hp} (a : TP H H1) (b : TP H1 H2) : TP H H2 := fun c xs h => b c xs (a c xs h)
theorem TP.same {H H' : Hp} (s : Same H H') : TP H H' := fun b xs h => s b _ h
theorem TP.but {l : Addr} {H H' : Hp} (s : But l H H') {xs : List V} (hl : H l = some (.lst xs)) : TP H H' := fun b ys h => s b _ h (ne_of h hl (by intro z; cases z))
theorem TP.src {l : Addr} {H H' : Hp} (s : But l H H') (hl : Src H l) : TP H H' := by
  obtain ⟨n, z, e, _⟩ := hl
  exact TP.but s e
theorem TP.upd {H : Hp} {p : Addr} {xs : List V} {o : HO} (h : H p = some (.lst xs)) : TP H (L2.upd H p o) := fun b ys e => by
  rw [upd_ne (ne_of e h (by intro z; cases z))]
  exact e
mutual
theorem Dt.tp {H H' : Hp} (t : TP H H') : ∀ {v : V} {d : D}, Pu d → Dt H v d → Dt H' v d
  | _, _, _, .non => .non
  | _, _, _, .bl b => .bl b
  | _, _, _, .int i => .int i
  | _, _, _, .str z => .str z
  | _, _, p, .lst _ _ => p.elim
  | _, _, p, .tup h a => .tup (t _ _ h) (DtAll.tp t p a)
  | _, _, p, .dct _ => p.elim
theorem DtAll.tp {H H' : Hp} (t : TP H H') : ∀ {vs : List V} {ds : List D}, PuAll ds → DtAll H vs ds → DtAll H' vs ds
  | _, _, _, .nil => .nil
  | _, _, p, .cons a b => .cons (Dt.tp t p.1 a) (DtAll.tp t p.2 b)
end
theorem PuAll.app : ∀ {ds es : List D}, PuAll ds → PuAll es → PuAll (ds ++ es)
  | [], _, _, h => h
  | _ :: _, _, a, h => ⟨a.1, PuAll.app a.2 h⟩
theorem OkAll.app : ∀ {ds es : List D}, OkAll ds → OkAll es → OkAll (ds ++ es)
  | [], _, _, h => h
  | _ :: _, _, a, h => ⟨a.1, OkAll.app a.2 h⟩
/-! ### prices and signs -/
structure PrOk (t b : Int) : Prop where
  t0 : 0 < t
  b0 : 0 < b
  t1 : t ≤ 900000000
  b1 : b ≤ 900000000
  g : Int.gcd b t = 1
theorem PrOk.is {t b : Int} (h : PrOk t b) : isPrice (.tup [.int t, .int b]) = true := by
  show (decide (0 < b) && (Int.gcd b t == 1) && decide (0 < t)) = true
  rw [decide_eq_true h.t0, decide_eq_true h.b0, h.g]
  rfl
theorem pow300 {n : Nat} (h : n < 2 ^ 40) : n < 2 ^ 300 := Nat.lt_of_lt_of_le h (Nat.pow_le_pow_right (by decide) (by decide))
theorem PrOk.ok {t b : Int} (h : PrOk t b) : Ok (.tup [.int t, .int b]) := by
  obtain ⟨h1, h2, h3, h4, _⟩ := h
  exact ⟨pow300 (by omega), pow300 (by omega), trivial⟩
theorem low_pos {t b : Int} (ht : 0 < t) (hb : 0 < b) : 0 < lowT t b ∧ 0 < lowB t b ∧ lowT t b ≤ t ∧ lowB t b ≤ b ∧ Int.gcd (lowB t b) (lowT t b) = 1 := by
  obtain ⟨m, rfl⟩ := Int.eq_ofNat_of_zero_le (Int.le_of_lt ht)
  obtain ⟨n, rfl⟩ := Int.eq_ofNat_of_zero_le (Int.le_of_lt hb)
  have hm : 0 < m := by omega
  have hn : 0 < n := by omega
  have hg : 0 < Nat.gcd n m := Nat.gcd_pos_of_pos_left _ hn
  have e1 : lowT (m : Int) (n : Int) = ((m / Nat.gcd n m : Nat) : Int) := by
    show (m : Int) / ((Nat.gcd n m : Nat) : Int) = _
    exact (Int.natCast_ediv _ _).symm
  have e2 : lowB (m : Int) (n : Int) = ((n / Nat.gcd n m : Nat) : Int) := by
    show (n : Int) / ((Nat.gcd n m : Nat) : Int) = _
    exact (Int.natCast_ediv _ _).symm
  rw [e1, e2]
  have d1 : 0 < m / Nat.gcd n m := Nat.div_pos (Nat.le_of_dvd hm (Nat.gcd_dvd_right n m)) hg
  have d2 : 0 < n / Nat.gcd n m := Nat.div_pos (Nat.le_of_dvd hn (Nat.gcd_dvd_left n m)) hg
  have d3 : m / Nat.gcd n m ≤ m := Nat.div_le_self _ _
  have d4 : n / Nat.gcd n m ≤ n := Nat.div_le_self _ _
  refine ⟨by omega, by omega, by omega, by omega, ?_⟩
  show Nat.gcd (n / Nat.gcd n m) (m / Nat.gcd n m) = 1
  rw [Nat.gcd_div (Nat.gcd_dvd_left n m) (Nat.gcd_dvd_right n m)]
  exact Nat.div_self hg
theorem sgn_small (c : Nat) : (sgn c).length ≤ 3000 := (by decide : 1 ≤ 3000)
/-- a price, or none -/
def LastD : D → Prop
  | .non => True
  | .tup [.int t, .int b] => PrOk t b
  | _ => False
structure SgD (d : D) (c : Nat) : Prop where
  ex : ∃ (t b : Int) (l : D), d = .tup [.str (sgn c), .tup [.int t, .int b], l] ∧ PrOk t b ∧ LastD l
  let_ : c ∈ letters.cps.toList
theorem LastD.facts {l : D} (h : LastD l) : (isNon l || isPrice l) = true ∧ Ok l ∧ Pu l := by
  match l, h with
  | .non, _ => exact ⟨rfl, trivial, trivial⟩
  | .tup [.int t, .int b], h =>
    have h : PrOk t b := h
    exact ⟨by rw [h.is, Bool.or_true], h.ok, trivial, trivial, trivial⟩
theorem SgD.facts {d : D} {c : Nat} (h : SgD d c) : isSign d = true ∧ Ok d ∧ Pu d ∧ headS d = sgn c := by
  obtain ⟨⟨t, b, l, rfl, hp, hl⟩, hc⟩ := h
  obtain ⟨l1, l2, l3⟩ := hl.facts
  have hlt : isLetter (.str (sgn c)) = true := by
    show ((sgn c).length == 1 && _) = true
    have : ((sgn c).length == 1) = true := rfl
    rw [this, Bool.true_and]
    simpa [sgn] using hc
  refine ⟨?_, ⟨⟨sgn_small c, asc_one (in_letters_asc hc)⟩, hp.ok, l2, trivial⟩, ⟨trivial, ⟨trivial, trivial, trivial⟩, l3, trivial⟩, rfl⟩
  show (isLetter (.str (sgn c)) && isPrice (.tup [.int t, .int b]) && (isNon l || isPrice l)) = true
  rw [hlt, hp.is, l1]
  rfl
/-- signs with their letters -/
inductive SgAll : List D → List Nat → Prop
  | nil : SgAll [] []
  | cons {d : D} {c : Nat} {ds : List D} {cs : List Nat} : SgD d c → SgAll ds cs → SgAll (d :: ds) (c :: cs)
theorem SgAll.app : ∀ {ds : List D} {cs : List Nat} {d : D} {c : Nat}, SgAll ds cs → SgD d c → SgAll (ds ++ [d]) (cs ++ [c])
  | _, _, _, _, .nil, h => .cons h .nil
  | _, _, _, _, .cons a b, h => .cons a (SgAll.app b h)
theorem SgAll.facts : ∀ {ds : List D} {cs : List Nat}, SgAll ds cs → ds.all isSign = true ∧ OkAll ds ∧ PuAll ds ∧ ds.map headS = cs.map sgn ∧ ds.length = cs.length ∧ ∀ c ∈ cs, c ∈ letters.cps.toList
  | _, _, .nil => ⟨rfl, trivial, trivial, rfl, rfl, fun _ h => nomatch h⟩
  | _, _, .cons a b => by
    obtain ⟨h1, h2, h3, h4⟩ := a.facts
    obtain ⟨g1, g2, g3, g4, g5, g6⟩ := SgAll.facts b
    refine ⟨by rw [List.all_cons, h1, g1]; rfl, ⟨h2, g2⟩, ⟨h3, g3⟩, by rw [List.map_cons, List.map_cons, h4, g4], by rw [List.length_cons, List.length_cons, g5], fun c hc => ?_⟩
    rcases List.mem_cons.mp hc with rfl | hc
    · exact a.let_
    · exact g6 c hc
theorem SgAll.get : ∀ {ds : List D} {cs : List Nat} {i : Nat} {d : D}, SgAll ds cs → ds[i]? = some d → ∃ c, cs[i]? = some c ∧ SgD d c
  | _, _, _, _, .nil, e => by simp at e
  | _, _, 0, _, .cons a _, e => by
    simp at e
    subst e
    exact ⟨_, rfl, a⟩
  | _, _, i + 1, d, .cons _ b, e => by
    obtain ⟨c, h1, h2⟩ := SgAll.get (i := i) (d := d) b (by simpa using e)
    exact ⟨c, by simpa using h1, h2⟩
theorem sgn_inj {a b : Nat} (h : sgn a = sgn b) : a = b := by
  have := congrArg (fun z : Str => z.cps.toList) h
  simpa [sgn] using this
theorem nodup_sgn {cs : List Nat} (h : cs.Nodup) : (cs.map sgn).Nodup := by
  rw [List.nodup_iff_pairwise_ne] at *
  rw [List.pairwise_map]
  exact h.imp fun hne e => hne (sgn_inj e)
/-- letters by start and step -/
def codeAt (s st : Int) (j : Nat) : Nat := letters.cps.toList.getD ((s + st * (j : Int)) % 26).toNat 0
theorem let_nodup : letters.cps.toList.Nodup := by decide +kernel
theorem let_len : letters.cps.toList.length = 26 := by decide +kernel
theorem code_mem (s st : Int) (j : Nat) : letters.cps.toList[((s + st * (j : Int)) % 26).toNat]? = some (codeAt s st j) := by
  have h0 : 0 ≤ (s + st * (j : Int)) % 26 := Int.emod_nonneg _ (by decide)
  have h1 : (s + st * (j : Int)) % 26 < 26 := Int.emod_lt_of_pos _ (by decide)
  have h2 : ((s + st * (j : Int)) % 26).toNat < letters.cps.toList.length := by rw [let_len]; omega
  unfold codeAt
  rw [List.getD_eq_getElem?_getD, List.getElem?_eq_getElem h2]
  rfl
theorem code_inj {s st : Int} (hst : st = 1 ∨ st = 3 ∨ st = 7 ∨ st = 25) {i j : Nat} (hi : i < 6) (hj : j < 6) (h : codeAt s st i = codeAt s st j) : i = j := by
  have a := code_mem s st i
  have b := code_mem s st j
  rw [← h] at b
  have e := nd_ix let_nodup a b
  have i0 : 0 ≤ (s + st * (i : Int)) % 26 := Int.emod_nonneg _ (by decide)
  have j0 : 0 ≤ (s + st * (j : Int)) % 26 := Int.emod_nonneg _ (by decide)
  rcases hst with rfl | rfl | rfl | rfl <;> omega
theorem codes_nodup {s st : Int} (hst : st = 1 ∨ st = 3 ∨ st = 7 ∨ st = 25) {n : Nat} (hn : n ≤ 6) : ((List.range n).map (codeAt s st)).Nodup := by
  rw [List.nodup_iff_pairwise_ne, List.pairwise_map]
  refine List.Pairwise.imp_of_mem ?_ (List.nodup_iff_pairwise_ne.mp List.nodup_range)
  intro a b ha hb hne e
  exact hne (code_inj hst (by have := List.mem_range.mp ha; omega) (by have := List.mem_range.mp hb; omega) e)
/-! ### firsts and pairs -/
theorem unl_ok {n : Int} {L : List Str} : ∀ {zs pre : List Str}, (∀ z ∈ zs, (z.length : Int) = n ∧ ∀ c ∈ z.cps.toList, sgn c ∈ L) → (pre ++ zs).Nodup → unl n L pre (zs.map D.str) = true
  | [], _, _, _ => rfl
  | z :: zs, pre, h, nd => by
    obtain ⟨h1, h2⟩ := h z List.mem_cons_self
    have h3 : ¬ z ∈ pre := fun q => (List.nodup_append.mp nd).2.2 z q z List.mem_cons_self rfl
    show (decide ((z.length : Int) = n) && !decide (z ∈ pre) && (z.cps.toList.all fun c => decide (sgn c ∈ L)) && unl n L (pre ++ [z]) (zs.map D.str)) = true
    have h4 : (z.cps.toList.all fun c => decide (sgn c ∈ L)) = true := List.all_eq_true.mpr fun c hc => decide_eq_true (h2 c hc)
    rw [decide_eq_true h1, decide_eq_false h3, h4, unl_ok (fun y hy => h y (List.mem_cons_of_mem _ hy)) (by rw [List.append_assoc]; exact nd)]
    rfl
theorem tl_sgn2 (a b : Nat) : (sgn a ++ sgn b).cps.toList = [a, b] := TL.tl_append (sgn a) (sgn b)
theorem sgn2_inj {a b c d : Nat} (h : sgn a ++ sgn b = sgn c ++ sgn d) : a = c ∧ b = d := by
  have := congrArg (fun z : Str => z.cps.toList) h
  simp only [tl_sgn2] at this
  injection this with h1 h2
  injection h2 with h2 _
  exact ⟨h1, h2⟩
/-- pairs out of cs, of those that begin with one of bs -/
structure PairsOf (bs cs : List Nat) (zs : List Str) : Prop where
  nd : zs.Nodup
  of : ∀ z ∈ zs, ∃ a ∈ bs, ∃ b ∈ cs, z = sgn a ++ sgn b
theorem pairs_len {a b : Nat} : (sgn a ++ sgn b).length = 2 := by
  rw [TL.len_tl]
  show (sgn a ++ sgn b).cps.toList.length = 2
  rw [tl_sgn2]
  rfl
theorem PairsOf.more {bs cs : List Nat} {zs ws : List Str} {a : Nat} (h : PairsOf bs cs zs) (ha : ¬ a ∈ bs) (hw : ws.Nodup) (ho : ∀ z ∈ ws, ∃ b ∈ cs, z = sgn a ++ sgn b) : PairsOf (bs ++ [a]) cs (zs ++ ws) where
  nd := by
    rw [List.nodup_append]
    refine ⟨h.nd, hw, fun x hx y hy e => ?_⟩
    obtain ⟨a1, h1, b1, _, rfl⟩ := h.of x hx
    obtain ⟨b2, _, rfl⟩ := ho y hy
    have := (sgn2_inj e).1
    subst this
    exact ha h1
  of := fun z hz => by
    rcases List.mem_append.mp hz with hz | hz
    · obtain ⟨a1, h1, b1, h2, rfl⟩ := h.of z hz
      exact ⟨a1, List.mem_append_left _ h1, b1, h2, rfl⟩
    · obtain ⟨b2, h2, rfl⟩ := ho z hz
      exact ⟨a, List.mem_append_right _ List.mem_cons_self, b2, h2, rfl⟩
theorem pairs_unlike {cs : List Nat} {zs : List Str} (h : PairsOf cs cs zs) : unlike 2 (cs.map sgn) (.lst (zs.map D.str)) = true := by
  refine unl_ok (fun z hz => ?_) (by simpa using h.nd)
  obtain ⟨a, ha, b, hb, rfl⟩ := h.of z hz
  refine ⟨by rw [pairs_len]; rfl, fun c hc => ?_⟩
  rw [tl_sgn2] at hc
  simp only [List.mem_cons, List.not_mem_nil, or_false] at hc
  rcases hc with rfl | rfl
  · exact List.mem_map_of_mem ha
  · exact List.mem_map_of_mem hb
theorem firsts_unlike {cs fs : List Nat} (nd : fs.Nodup) (h : ∀ c ∈ fs, c ∈ cs) : unlike 1 (cs.map sgn) (.lst ((fs.map sgn).map D.str)) = true := by
  refine unl_ok (fun z hz => ?_) (by simpa using nodup_sgn nd)
  obtain ⟨c, hc, rfl⟩ := List.mem_map.mp hz
  refine ⟨rfl, fun x hx => ?_⟩
  have : x = c := by simpa [sgn] using hx
  subst this
  exact List.mem_map_of_mem (h _ hc)
theorem signs_ok {ds : List D} {cs : List Nat} (h : SgAll ds cs) (nd : cs.Nodup) (l2 : 2 ≤ cs.length) (l6 : cs.length ≤ 6) : areSigns (.lst ds) = true := by
  obtain ⟨h1, h2, h3, h4, h5, h6⟩ := h.facts
  show (decide (2 ≤ ds.length ∧ ds.length ≤ 6) && ds.all isSign && (dd (ds.map headS)).length == ds.length) = true
  rw [decide_eq_true (by omega), h1, h4]
  have e : dd (cs.map sgn) = cs.map sgn := by
    have := dd_nodup [] (xs := cs.map sgn) (by simpa using nodup_sgn nd)
    rw [List.nil_append] at this
    exact this
  rw [e, List.length_map, h5]
  simp
/-! ### the tongue that the law draws -/
structure TgD (d : D) (ds : List D) (cs fs : List Nat) (zs : List Str) (i : Int) : Prop where
  eq : d = .tup [.lst ds, .lst ((fs.map sgn).map D.str), .lst (zs.map D.str), .int i]
  sg : SgAll ds cs
  nd : cs.Nodup
  l2 : 2 ≤ cs.length
  l6 : cs.length ≤ 6
  fn : fs.Nodup
  fo : ∀ c ∈ fs, c ∈ cs
  po : PairsOf cs cs zs
  i1 : 1 ≤ i
  i8 : i ≤ 8
theorem okStrs : ∀ {zs : List Str}, (∀ z ∈ zs, z.length ≤ 3000 ∧ Asc z) → OkAll (zs.map D.str)
  | [], _ => trivial
  | z :: zs, h => ⟨h z List.mem_cons_self, okStrs fun y hy => h y (List.mem_cons_of_mem _ hy)⟩
theorem TgD.look {d : D} {ds : List D} {cs fs : List Nat} {zs : List Str} {i : Int} (t : TgD d ds cs fs zs i) : lookOk d = true := by
  obtain ⟨rfl, sg, nd, l2, l6, fn, fo, po, i1, i8⟩ := t
  obtain ⟨h1, h2, h3, h4, h5, h6⟩ := sg.facts
  show (areSigns (.lst ds) && unlike 1 (ds.map headS) _ && unlike 2 (ds.map headS) _ && decide (1 ≤ i ∧ i ≤ 8)) = true
  rw [signs_ok sg nd l2 l6, h4, firsts_unlike fn fo, pairs_unlike po, decide_eq_true ⟨i1, i8⟩]
  rfl
theorem TgD.ok {d : D} {ds : List D} {cs fs : List Nat} {zs : List Str} {i : Int} (t : TgD d ds cs fs zs i) : Ok d := by
  obtain ⟨rfl, sg, nd, l2, l6, fn, fo, po, i1, i8⟩ := t
  obtain ⟨h1, h2, h3, h4, h5, h6⟩ := sg.facts
  refine ⟨h2, okStrs fun z hz => ?_, okStrs fun z hz => ?_, pow300 (by omega), trivial⟩
  · obtain ⟨c, hc, rfl⟩ := List.mem_map.mp hz
    exact ⟨sgn_small c, asc_one (in_letters_asc (h6 c (fo c hc)))⟩
  · obtain ⟨a, ha, b, hb, rfl⟩ := po.of z hz
    refine ⟨by rw [pairs_len]; decide, fun c hc => ?_⟩
    rw [tl_sgn2] at hc
    simp only [List.mem_cons, List.not_mem_nil, or_false] at hc
    rcases hc with rfl | rfl
    · exact in_letters_asc (h6 _ ha)
    · exact in_letters_asc (h6 _ hb)
end Dear

namespace Dear
open PySem PySem.Spec PyProof.Rows L2
/-! ### data as the library's, for == -/
mutual
def py : D → PyData
  | .non => .none
  | .bl b => .bool b
  | .int i => .int i
  | .str z => .str z
  | .lst ds => .list (pyAll ds)
  | .tup ds => .tuple (pyAll ds)
  | .dct => .none
def pyAll : List D → List PyData
  | [] => []
  | d :: ds => py d :: pyAll ds
end
mutual
def NoD : D → Prop
  | .dct => False
  | .lst ds => NoDAll ds
  | .tup ds => NoDAll ds
  | _ => True
def NoDAll : List D → Prop
  | [] => True
  | d :: ds => NoD d ∧ NoDAll ds
end
mutual
theorem Dt.dp {K : PySem.W.Frag} {H : Hp} : ∀ {v : V} {d : D}, NoD d → Dt H v d → Dp K H v (py d)
  | _, _, _, .non => .non
  | _, _, _, .bl b => .bl b
  | _, _, _, .int i => .int i
  | _, _, _, .str z => .str z
  | _, _, n, .lst h a => .lst (SqL.of h) (DtAll.dp n a)
  | _, _, n, .tup h a => .tup (SqT.of h) (DtAll.dp n a)
  | _, _, n, .dct _ => n.elim
theorem DtAll.dp {K : PySem.W.Frag} {H : Hp} : ∀ {vs : List V} {ds : List D}, NoDAll ds → DtAll H vs ds → DpAll K H vs (pyAll ds)
  | _, _, _, .nil => .nil
  | _, _, n, .cons a b => .cons (Dt.dp n.1 a) (DtAll.dp n.2 b)
end
mutual
theorem lay_py : ∀ {d : D}, Ok d → NoD d → PyData.canLay0 (py d) = true
  | .non, _, _ => rfl
  | .bl _, _, _ => rfl
  | .int _, _, _ => rfl
  | .str _, o, _ => strOk_asc o.2
  | .lst _, o, n => layAll_py o n
  | .tup _, o, n => layAll_py o n
  | .dct, _, n => n.elim
theorem layAll_py : ∀ {ds : List D}, OkAll ds → NoDAll ds → PyData.canLayAll0 (pyAll ds) = true
  | [], _, _ => rfl
  | d :: ds, o, n => by
    show (PyData.canLay0 (py d) && PyData.canLayAll0 (pyAll ds)) = true
    rw [lay_py o.1 n.1, layAll_py o.2 n.2]
    rfl
end
/-! how deep -/
mutual
def dep : D → Nat
  | .lst ds => depAll ds + 1
  | .tup ds => depAll ds + 1
  | _ => 0
def depAll : List D → Nat
  | [] => 0
  | d :: ds => max (dep d) (depAll ds)
end
mutual
theorem dep_py : ∀ d : D, PyData.depth (py d) = dep d
  | .non => rfl
  | .bl _ => rfl
  | .int _ => rfl
  | .str _ => rfl
  | .lst ds => congrArg (· + 1) (depAll_py ds)
  | .tup ds => congrArg (· + 1) (depAll_py ds)
  | .dct => rfl
theorem depAll_py : ∀ ds : List D, PyData.depthAll (pyAll ds) = depAll ds
  | [] => rfl
  | d :: ds => by
    show max (PyData.depth (py d)) (PyData.depthAll (pyAll ds)) = max (dep d) (depAll ds)
    rw [dep_py d, depAll_py ds]
end
theorem shaped_py {d : D} (o : Ok d) (n : NoD d) (h : dep d ≤ 64) : SeqAt.shaped (py d) = true := by
  show (PyData.canLay0 (py d) && decide (PyData.depth (py d) ≤ 64)) = true
  rw [lay_py o n, dep_py, decide_eq_true h]
  rfl
theorem depAll_le : ∀ {ds : List D} {n : Nat}, (∀ d ∈ ds, dep d ≤ n) → depAll ds ≤ n
  | [], _, _ => Nat.zero_le _
  | d :: ds, n, h => Nat.max_le.mpr ⟨h d List.mem_cons_self, depAll_le fun x hx => h x (List.mem_cons_of_mem _ hx)⟩
theorem noAll_of : ∀ {ds : List D}, (∀ d ∈ ds, NoD d) → NoDAll ds
  | [], _ => trivial
  | d :: ds, h => ⟨h d List.mem_cons_self, noAll_of fun x hx => h x (List.mem_cons_of_mem _ hx)⟩
theorem strs_flat (zs : List Str) : (∀ d ∈ zs.map D.str, dep d ≤ 0) ∧ ∀ d ∈ zs.map D.str, NoD d := by
  constructor <;> intro d hd <;> obtain ⟨z, _, rfl⟩ := List.mem_map.mp hd
  · exact Nat.le_refl _
  · trivial
theorem eqv_same {d : PyData} (h : SeqAt.shaped d = true) : PyData.eqv d d = true := SeqAt.eqv_refl _ (SeqAt.canLay_of_shaped h)
end Dear

namespace Dear
open PySem PySem.Spec PyProof.Rows L2
theorem LastD.flat {l : D} (h : LastD l) : dep l ≤ 1 ∧ NoD l := by
  match l, h with
  | .non, _ => exact ⟨Nat.zero_le _, trivial⟩
  | .tup [.int t, .int b], _ => exact ⟨Nat.le_refl _, trivial, trivial, trivial⟩
theorem SgD.flat {d : D} {c : Nat} (h : SgD d c) : dep d ≤ 2 ∧ NoD d := by
  obtain ⟨⟨t, b, l, rfl, _, hl⟩, _⟩ := h
  obtain ⟨h1, h2⟩ := hl.flat
  refine ⟨?_, trivial, ⟨trivial, trivial, trivial⟩, h2, trivial⟩
  show max 0 (max (max 0 (max 0 0) + 1) (max (dep l) 0)) + 1 ≤ 2
  omega
theorem SgAll.flat : ∀ {ds : List D} {cs : List Nat}, SgAll ds cs → depAll ds ≤ 2 ∧ NoDAll ds
  | _, _, .nil => ⟨Nat.zero_le _, trivial⟩
  | _, _, .cons a b => ⟨Nat.max_le.mpr ⟨a.flat.1, (SgAll.flat b).1⟩, a.flat.2, (SgAll.flat b).2⟩
theorem TgD.flat {d : D} {ds : List D} {cs fs : List Nat} {zs : List Str} {i : Int} (t : TgD d ds cs fs zs i) : dep d ≤ 64 ∧ NoD d := by
  rw [t.eq]
  obtain ⟨h1, h2⟩ := t.sg.flat
  have a1 := depAll_le (strs_flat (fs.map sgn)).1
  have a2 := depAll_le (strs_flat zs).1
  refine ⟨?_, h2, noAll_of (strs_flat _).2, noAll_of (strs_flat _).2, trivial, trivial⟩
  show max (depAll ds + 1) (max (depAll ((fs.map sgn).map D.str) + 1) (max (depAll (zs.map D.str) + 1) (max 0 0))) + 1 ≤ 64
  omega
theorem TgD.shaped {d : D} {ds : List D} {cs fs : List Nat} {zs : List Str} {i : Int} (t : TgD d ds cs fs zs i) : SeqAt.shaped (py d) = true := shaped_py t.ok t.flat.2 t.flat.1
end Dear

namespace Dear
open PySem PySem.Spec PyProof.Rows L2
def top (i : Nat) : Stmt := PySem.Challenge.pw_dearsigns_k06_texts_that_stand.main.body.getD i (.Pass ⟨0, 0, 0, 0⟩)
abbrev s_NoTongue___init__ : Stmt := inClass (top 2) 0
abbrev s_is_whole : Stmt := top 4
abbrev s_divisor : Stmt := top 5
abbrev s_is_fraction : Stmt := top 6
abbrev s_is_price : Stmt := top 12
abbrev s_is_letter : Stmt := top 13
abbrev s_is_sign : Stmt := top 14
abbrev s_are_signs : Stmt := top 15
abbrev s_are_unlike_texts : Stmt := top 16
abbrev s_look_at_tongue : Stmt := top 17
abbrev s_comes : Stmt := top 19
abbrev s_may_come : Stmt := top 20
abbrev s_prices_in : Stmt := top 21
abbrev s_lasts_in : Stmt := top 22
abbrev s_stands : Stmt := top 23
abbrev s_may_stand : Stmt := top 24
abbrev s_is_word : Stmt := top 25
abbrev s__law_cell : Stmt := top 27
abbrev s__law_source : Stmt := top 28
abbrev s__law_draw : Stmt := top 29
abbrev s__law_lowest : Stmt := top 30
abbrev s__law_price : Stmt := top 31
abbrev s__law_signs : Stmt := top 32
abbrev s__law_tongue : Stmt := top 33
abbrev s__law_copy : Stmt := top 34
abbrev s__law_comes : Stmt := top 35
abbrev s__law_stands : Stmt := top 36
abbrev s__law_is_word : Stmt := top 37
abbrev s__law_text : Stmt := top 38
abbrev s__law_thing : Stmt := top 39
abbrev s__law_pairs_right : Stmt := top 40
abbrev s_law : Stmt := top 41
abbrev n_NoTongue___init__ : List Str := ["self", "part"]
theorem c_NoTongue___init__ : FnScope n_NoTongue___init__ ["self", "part"] (defScope s_NoTongue___init__) := ⟨rfl, rfl, rfl, by decide +kernel, rfl, by decide +kernel, by decide +kernel⟩
abbrev n_is_whole : List Str := ["thing"]
theorem c_is_whole : FnScope n_is_whole ["thing"] (defScope s_is_whole) := ⟨rfl, rfl, rfl, by decide +kernel, rfl, by decide +kernel, by decide +kernel⟩
abbrev n_divisor : List Str := ["one", "other"]
theorem c_divisor : FnScope n_divisor ["one", "other"] (defScope s_divisor) := ⟨rfl, rfl, rfl, by decide +kernel, rfl, by decide +kernel, by decide +kernel⟩
abbrev n_is_fraction : List Str := ["thing", "top", "bottom"]
theorem c_is_fraction : FnScope n_is_fraction ["thing"] (defScope s_is_fraction) := ⟨rfl, rfl, rfl, by decide +kernel, rfl, by decide +kernel, by decide +kernel⟩
abbrev n_is_price : List Str := ["thing"]
theorem c_is_price : FnScope n_is_price ["thing"] (defScope s_is_price) := ⟨rfl, rfl, rfl, by decide +kernel, rfl, by decide +kernel, by decide +kernel⟩
abbrev n_is_letter : List Str := ["thing"]
theorem c_is_letter : FnScope n_is_letter ["thing"] (defScope s_is_letter) := ⟨rfl, rfl, rfl, by decide +kernel, rfl, by decide +kernel, by decide +kernel⟩
abbrev n_is_sign : List Str := ["thing", "sign", "price", "last"]
theorem c_is_sign : FnScope n_is_sign ["thing"] (defScope s_is_sign) := ⟨rfl, rfl, rfl, by decide +kernel, rfl, by decide +kernel, by decide +kernel⟩
abbrev n_are_signs : List Str := ["thing", "one"]
theorem c_are_signs : FnScope n_are_signs ["thing"] (defScope s_are_signs) := ⟨rfl, rfl, rfl, by decide +kernel, rfl, by decide +kernel, by decide +kernel⟩
abbrev n_are_unlike_texts : List Str := ["thing", "size", "letters", "at", "one", "sign"]
theorem c_are_unlike_texts : FnScope n_are_unlike_texts ["thing", "size", "letters"] (defScope s_are_unlike_texts) := ⟨rfl, rfl, rfl, by decide +kernel, rfl, by decide +kernel, by decide +kernel⟩
abbrev n_look_at_tongue : List Str := ["thing", "signs", "firsts", "pairs", "longest", "letters", "one"]
theorem c_look_at_tongue : FnScope n_look_at_tongue ["thing"] (defScope s_look_at_tongue) := ⟨rfl, rfl, rfl, by decide +kernel, rfl, by decide +kernel, by decide +kernel⟩
abbrev n_comes : List Str := ["tongue", "ahead", "sign"]
theorem c_comes : FnScope n_comes ["tongue", "ahead", "sign"] (defScope s_comes) := ⟨rfl, rfl, rfl, by decide +kernel, rfl, by decide +kernel, by decide +kernel⟩
abbrev n_may_come : List Str := ["tongue", "ahead", "sign"]
theorem c_may_come : FnScope n_may_come ["tongue", "ahead", "sign"] (defScope s_may_come) := ⟨rfl, rfl, rfl, by decide +kernel, rfl, by decide +kernel, by decide +kernel⟩
abbrev n_prices_in : List Str := ["tongue", "sign", "price", "last"]
theorem c_prices_in : FnScope n_prices_in ["tongue"] (defScope s_prices_in) := ⟨rfl, rfl, rfl, by decide +kernel, rfl, by decide +kernel, by decide +kernel⟩
abbrev n_lasts_in : List Str := ["tongue", "sign", "price", "last"]
theorem c_lasts_in : FnScope n_lasts_in ["tongue"] (defScope s_lasts_in) := ⟨rfl, rfl, rfl, by decide +kernel, rfl, by decide +kernel, by decide +kernel⟩
abbrev n_stands : List Str := ["tongue", "thing", "prices", "ahead", "sign"]
theorem c_stands : FnScope n_stands ["tongue", "thing"] (defScope s_stands) := ⟨rfl, rfl, rfl, by decide +kernel, rfl, by decide +kernel, by decide +kernel⟩
abbrev n_may_stand : List Str := ["tongue", "thing"]
theorem c_may_stand : FnScope n_may_stand ["tongue", "thing"] (defScope s_may_stand) := ⟨rfl, rfl, rfl, by decide +kernel, rfl, by decide +kernel, by decide +kernel⟩
abbrev n_is_word : List Str := ["tongue", "thing"]
theorem c_is_word : FnScope n_is_word ["tongue", "thing"] (defScope s_is_word) := ⟨rfl, rfl, rfl, by decide +kernel, rfl, by decide +kernel, by decide +kernel⟩
abbrev n__law_cell : List Str := ["_law_script", "_law_k"]
theorem c__law_cell : FnScope n__law_cell ["_law_script", "_law_k"] (defScope s__law_cell) := ⟨rfl, rfl, rfl, by decide +kernel, rfl, by decide +kernel, by decide +kernel⟩
abbrev n__law_source : List Str := ["_law_cell_here", "_law_k", "_law_number", "_law_seed"]
theorem c__law_source : FnScope n__law_source ["_law_cell_here", "_law_k"] (defScope s__law_source) := ⟨rfl, rfl, rfl, by decide +kernel, rfl, by decide +kernel, by decide +kernel⟩
abbrev n__law_draw : List Str := ["_law_source_here", "_law_many", "_law_digit"]
theorem c__law_draw : FnScope n__law_draw ["_law_source_here", "_law_many"] (defScope s__law_draw) := ⟨rfl, rfl, rfl, by decide +kernel, rfl, by decide +kernel, by decide +kernel⟩
abbrev n__law_lowest : List Str := ["_law_top", "_law_bottom", "_law_one", "_law_other"]
theorem c__law_lowest : FnScope n__law_lowest ["_law_top", "_law_bottom"] (defScope s__law_lowest) := ⟨rfl, rfl, rfl, by decide +kernel, rfl, by decide +kernel, by decide +kernel⟩
abbrev n__law_price : List Str := ["_law_source_here", "_law_way", "_law_wide", "_law_top"]
theorem c__law_price : FnScope n__law_price ["_law_source_here"] (defScope s__law_price) := ⟨rfl, rfl, rfl, by decide +kernel, rfl, by decide +kernel, by decide +kernel⟩
abbrev n__law_signs : List Str := ["_law_source_here", "_law_many", "_law_letters", "_law_start", "_law_step", "_law_signs_here", "_law_k", "_law_price_here", "_law_last", "_law_way"]
theorem c__law_signs : FnScope n__law_signs ["_law_source_here", "_law_many"] (defScope s__law_signs) := ⟨rfl, rfl, rfl, by decide +kernel, rfl, by decide +kernel, by decide +kernel⟩
abbrev n__law_tongue : List Str := ["_law_script", "_law_base", "_law_most", "_law_longs", "_law_source_here", "_law_many", "_law_signs_here", "_law_names", "_law_longest", "_law_rare", "_law_firsts", "_law_pairs", "_law_one", "_law_sign", "_law_other"]
theorem c__law_tongue : FnScope n__law_tongue ["_law_script", "_law_base", "_law_most", "_law_longs"] (defScope s__law_tongue) := ⟨rfl, rfl, rfl, by decide +kernel, rfl, by decide +kernel, by decide +kernel⟩
abbrev n__law_copy : List Str := ["_law_tongue_here"]
theorem c__law_copy : FnScope n__law_copy ["_law_tongue_here"] (defScope s__law_copy) := ⟨rfl, rfl, rfl, by decide +kernel, rfl, by decide +kernel, by decide +kernel⟩
abbrev n__law_comes : List Str := ["_law_tongue_here", "_law_ahead", "_law_sign"]
theorem c__law_comes : FnScope n__law_comes ["_law_tongue_here", "_law_ahead", "_law_sign"] (defScope s__law_comes) := ⟨rfl, rfl, rfl, by decide +kernel, rfl, by decide +kernel, by decide +kernel⟩
abbrev n__law_stands : List Str := ["_law_tongue_here", "_law_thing_here", "_law_names", "_law_k", "_law_one"]
theorem c__law_stands : FnScope n__law_stands ["_law_tongue_here", "_law_thing_here"] (defScope s__law_stands) := ⟨rfl, rfl, rfl, by decide +kernel, rfl, by decide +kernel, by decide +kernel⟩
abbrev n__law_is_word : List Str := ["_law_tongue_here", "_law_thing_here", "_law_sign", "_law_price_here", "_law_last"]
theorem c__law_is_word : FnScope n__law_is_word ["_law_tongue_here", "_law_thing_here"] (defScope s__law_is_word) := ⟨rfl, rfl, rfl, by decide +kernel, rfl, by decide +kernel, by decide +kernel⟩
abbrev n__law_text : List Str := ["_law_tongue_here", "_law_source_here", "_law_names", "_law_text_here", "_law_k", "_law_some", "_law_one", "_law_sign"]
theorem c__law_text : FnScope n__law_text ["_law_tongue_here", "_law_source_here"] (defScope s__law_text) := ⟨rfl, rfl, rfl, by decide +kernel, rfl, by decide +kernel, by decide +kernel⟩
abbrev n__law_thing : List Str := ["_law_tongue_here", "_law_source_here", "_law_text_here", "_law_some", "_law_sign", "_law_at", "_law_way", "_law_odd"]
theorem c__law_thing : FnScope n__law_thing ["_law_tongue_here", "_law_source_here"] (defScope s__law_thing) := ⟨rfl, rfl, rfl, by decide +kernel, rfl, by decide +kernel, by decide +kernel⟩
abbrev n__law_pairs_right : List Str := ["_law_tongue_here", "_law_names", "_law_ahead", "_law_sign", "_law_found", "_law_one"]
theorem c__law_pairs_right : FnScope n__law_pairs_right ["_law_tongue_here"] (defScope s__law_pairs_right) := ⟨rfl, rfl, rfl, by decide +kernel, rfl, by decide +kernel, by decide +kernel⟩
abbrev n_law : List Str := ["_law_script", "_law_tongue_here", "_law_kept", "_law_k", "_law_thing_here", "_law_found", "_law_one"]
theorem c_law : FnScope n_law ["_law_script"] (defScope s_law) := ⟨rfl, rfl, rfl, by decide +kernel, rfl, by decide +kernel, by decide +kernel⟩
structure Ads where
  DearError : Addr
  NoTongue : Addr
/-- what the top has left -/
structure Txt (K : PySem.W.Frag) (mg : Str → Option Value) where
  A : Ads
  C_DearError : mg "DearError" = some (.ref A.DearError)
  C_NoTongue : mg "NoTongue" = some (.ref A.NoTongue)
  q_NoTongue_DearError : PySem.W.kitOne K (.ref A.NoTongue) (.ref A.DearError) = some true
  q_NoTongue_NoTongue : PySem.W.kitOne K (.ref A.NoTongue) (.ref A.NoTongue) = some true
  q_NoTongue_ValueError : PySem.W.kitOne K (.ref A.NoTongue) (.type "ValueError") = some true
  m_NoTongue : PySem.W.exmOne K (.ref A.NoTongue) (.ref A.DearError) = some true
  f_is_whole : Df K mg "is_whole" s_is_whole ["thing"]
  f_divisor : Df K mg "divisor" s_divisor ["one", "other"]
  f_is_fraction : Df K mg "is_fraction" s_is_fraction ["thing"]
  f_is_price : Df K mg "is_price" s_is_price ["thing"]
  f_is_letter : Df K mg "is_letter" s_is_letter ["thing"]
  f_is_sign : Df K mg "is_sign" s_is_sign ["thing"]
  f_are_signs : Df K mg "are_signs" s_are_signs ["thing"]
  f_are_unlike_texts : Df K mg "are_unlike_texts" s_are_unlike_texts ["thing", "size", "letters"]
  f_look_at_tongue : Df K mg "look_at_tongue" s_look_at_tongue ["thing"]
  f_comes : Df K mg "comes" s_comes ["tongue", "ahead", "sign"]
  f_may_come : Df K mg "may_come" s_may_come ["tongue", "ahead", "sign"]
  f_prices_in : Df K mg "prices_in" s_prices_in ["tongue"]
  f_lasts_in : Df K mg "lasts_in" s_lasts_in ["tongue"]
  f_stands : Df K mg "stands" s_stands ["tongue", "thing"]
  f_may_stand : Df K mg "may_stand" s_may_stand ["tongue", "thing"]
  f_is_word : Df K mg "is_word" s_is_word ["tongue", "thing"]
  f__law_cell : Df K mg "_law_cell" s__law_cell ["_law_script", "_law_k"]
  f__law_source : Df K mg "_law_source" s__law_source ["_law_cell_here", "_law_k"]
  f__law_draw : Df K mg "_law_draw" s__law_draw ["_law_source_here", "_law_many"]
  f__law_lowest : Df K mg "_law_lowest" s__law_lowest ["_law_top", "_law_bottom"]
  f__law_price : Df K mg "_law_price" s__law_price ["_law_source_here"]
  f__law_signs : Df K mg "_law_signs" s__law_signs ["_law_source_here", "_law_many"]
  f__law_tongue : Df K mg "_law_tongue" s__law_tongue ["_law_script", "_law_base", "_law_most", "_law_longs"]
  f__law_copy : Df K mg "_law_copy" s__law_copy ["_law_tongue_here"]
  f__law_comes : Df K mg "_law_comes" s__law_comes ["_law_tongue_here", "_law_ahead", "_law_sign"]
  f__law_stands : Df K mg "_law_stands" s__law_stands ["_law_tongue_here", "_law_thing_here"]
  f__law_is_word : Df K mg "_law_is_word" s__law_is_word ["_law_tongue_here", "_law_thing_here"]
  f__law_text : Df K mg "_law_text" s__law_text ["_law_tongue_here", "_law_source_here"]
  f__law_thing : Df K mg "_law_thing" s__law_thing ["_law_tongue_here", "_law_source_here"]
  f__law_pairs_right : Df K mg "_law_pairs_right" s__law_pairs_right ["_law_tongue_here"]
  f_law : Df K mg "law" s_law ["_law_script"]
  g_LETTERS : ∃ t, mg "LETTERS" = some (.str "abcdefghijklmnopqrstuvwxyz" t)
  g_FEWEST_SIGNS : ∃ t, mg "FEWEST_SIGNS" = some (.int 2 t)
  g_MOST_SIGNS : ∃ t, mg "MOST_SIGNS" = some (.int 6 t)
  g_LONGEST : ∃ t, mg "LONGEST" = some (.int 8 t)
  b_abs : mg "abs" = none
  b_all : mg "all" = none
  b_bool : mg "bool" = none
  b_dict : mg "dict" = none
  b_enumerate : mg "enumerate" = none
  b_int : mg "int" = none
  b_isinstance : mg "isinstance" = none
  b_len : mg "len" = none
  b_list : mg "list" = none
  b_max : mg "max" = none
  b_min : mg "min" = none
  b_range : mg "range" = none
  b_set : mg "set" = none
  b_str : mg "str" = none
  b_tuple : mg "tuple" = none
def txt_mk {K : PySem.W.Frag} {h : Heap} {mg : Str → Option Value} (X : K.In h) (G : h.Ns mainGlobals mg)
    {C_DearError : Addr} {C_NoTongue : Addr} 
    {f1 : Addr} {od1 an1 : Option Addr} {sl1 : Array (Option Value)} {oc1 kV1 dc1 pm1 cd1 ct1 : Value}
    {f2 : Addr} {od2 an2 : Option Addr} {sl2 : Array (Option Value)} {oc2 kV2 dc2 pm2 cd2 ct2 : Value}
    {f3 : Addr} {od3 an3 : Option Addr} {sl3 : Array (Option Value)} {oc3 kV3 dc3 pm3 cd3 ct3 : Value}
    {f4 : Addr} {od4 an4 : Option Addr} {sl4 : Array (Option Value)} {oc4 kV4 dc4 pm4 cd4 ct4 : Value}
    {f5 : Addr} {od5 an5 : Option Addr} {sl5 : Array (Option Value)} {oc5 kV5 dc5 pm5 cd5 ct5 : Value}
    {f6 : Addr} {od6 an6 : Option Addr} {sl6 : Array (Option Value)} {oc6 kV6 dc6 pm6 cd6 ct6 : Value}
    {f7 : Addr} {od7 an7 : Option Addr} {sl7 : Array (Option Value)} {oc7 kV7 dc7 pm7 cd7 ct7 : Value}
    {f8 : Addr} {od8 an8 : Option Addr} {sl8 : Array (Option Value)} {oc8 kV8 dc8 pm8 cd8 ct8 : Value}
    {f9 : Addr} {od9 an9 : Option Addr} {sl9 : Array (Option Value)} {oc9 kV9 dc9 pm9 cd9 ct9 : Value}
    {f10 : Addr} {od10 an10 : Option Addr} {sl10 : Array (Option Value)} {oc10 kV10 dc10 pm10 cd10 ct10 : Value}
    {f11 : Addr} {od11 an11 : Option Addr} {sl11 : Array (Option Value)} {oc11 kV11 dc11 pm11 cd11 ct11 : Value}
    {f12 : Addr} {od12 an12 : Option Addr} {sl12 : Array (Option Value)} {oc12 kV12 dc12 pm12 cd12 ct12 : Value}
    {f13 : Addr} {od13 an13 : Option Addr} {sl13 : Array (Option Value)} {oc13 kV13 dc13 pm13 cd13 ct13 : Value}
    {f14 : Addr} {od14 an14 : Option Addr} {sl14 : Array (Option Value)} {oc14 kV14 dc14 pm14 cd14 ct14 : Value}
    {f15 : Addr} {od15 an15 : Option Addr} {sl15 : Array (Option Value)} {oc15 kV15 dc15 pm15 cd15 ct15 : Value}
    {f16 : Addr} {od16 an16 : Option Addr} {sl16 : Array (Option Value)} {oc16 kV16 dc16 pm16 cd16 ct16 : Value}
    {f17 : Addr} {od17 an17 : Option Addr} {sl17 : Array (Option Value)} {oc17 kV17 dc17 pm17 cd17 ct17 : Value}
    {f18 : Addr} {od18 an18 : Option Addr} {sl18 : Array (Option Value)} {oc18 kV18 dc18 pm18 cd18 ct18 : Value}
    {f19 : Addr} {od19 an19 : Option Addr} {sl19 : Array (Option Value)} {oc19 kV19 dc19 pm19 cd19 ct19 : Value}
    {f20 : Addr} {od20 an20 : Option Addr} {sl20 : Array (Option Value)} {oc20 kV20 dc20 pm20 cd20 ct20 : Value}
    {f21 : Addr} {od21 an21 : Option Addr} {sl21 : Array (Option Value)} {oc21 kV21 dc21 pm21 cd21 ct21 : Value}
    {f22 : Addr} {od22 an22 : Option Addr} {sl22 : Array (Option Value)} {oc22 kV22 dc22 pm22 cd22 ct22 : Value}
    {f23 : Addr} {od23 an23 : Option Addr} {sl23 : Array (Option Value)} {oc23 kV23 dc23 pm23 cd23 ct23 : Value}
    {f24 : Addr} {od24 an24 : Option Addr} {sl24 : Array (Option Value)} {oc24 kV24 dc24 pm24 cd24 ct24 : Value}
    {f25 : Addr} {od25 an25 : Option Addr} {sl25 : Array (Option Value)} {oc25 kV25 dc25 pm25 cd25 ct25 : Value}
    {f26 : Addr} {od26 an26 : Option Addr} {sl26 : Array (Option Value)} {oc26 kV26 dc26 pm26 cd26 ct26 : Value}
    {f27 : Addr} {od27 an27 : Option Addr} {sl27 : Array (Option Value)} {oc27 kV27 dc27 pm27 cd27 ct27 : Value}
    {f28 : Addr} {od28 an28 : Option Addr} {sl28 : Array (Option Value)} {oc28 kV28 dc28 pm28 cd28 ct28 : Value}
    {f29 : Addr} {od29 an29 : Option Addr} {sl29 : Array (Option Value)} {oc29 kV29 dc29 pm29 cd29 ct29 : Value}
    {f30 : Addr} {od30 an30 : Option Addr} {sl30 : Array (Option Value)} {oc30 kV30 dc30 pm30 cd30 ct30 : Value}
    {f31 : Addr} {od31 an31 : Option Addr} {sl31 : Array (Option Value)} {oc31 kV31 dc31 pm31 cd31 ct31 : Value}
    {t32 : Tok}
    {t33 : Tok}
    {t34 : Tok}
    {t35 : Tok}
    (g_DearError : PySem.W.nsIn K mainGlobals "DearError" = some (some (.ref C_DearError)))
    (i_DearError : PySem.W.isClsIn K C_DearError = true) (t_DearError : PySem.W.typeIn K (.ref C_DearError) = some (.type "type"))
    (g_NoTongue : PySem.W.nsIn K mainGlobals "NoTongue" = some (some (.ref C_NoTongue)))
    (i_NoTongue : PySem.W.isClsIn K C_NoTongue = true) (t_NoTongue : PySem.W.typeIn K (.ref C_NoTongue) = some (.type "type"))
    (b_DearError : PySem.W.subIn K (.ref C_DearError) (.type "BaseException") = some true)
    (q_NoTongue_DearError : PySem.W.subIn K (.ref C_NoTongue) (.ref C_DearError) = some true)
    (n_NoTongue_DearError : (Value.ref C_NoTongue == Value.ref C_DearError) = false)
    (q_NoTongue_NoTongue : PySem.W.subIn K (.ref C_NoTongue) (.ref C_NoTongue) = some true)
    (q_NoTongue_ValueError : PySem.W.subIn K (.ref C_NoTongue) (.type "ValueError") = some true)
    (a1 : PySem.W.nsIn K mainGlobals "is_whole" = some (some (.ref f1))) (l1 : K.lookup f1 = some ⟨oc1, od1, .func (PySem.W.fnOf "is_whole" "is_whole" (defArgs s_is_whole) (defBody s_is_whole) (defScope s_is_whole) .none kV1 dc1 pm1 an1 cd1 ct1), sl1⟩) (c1 : PySem.W.codeIn K cd1 "is_whole" = true) (k1 : PySem.W.keepIn K (.ref f1) = true)
    (a2 : PySem.W.nsIn K mainGlobals "divisor" = some (some (.ref f2))) (l2 : K.lookup f2 = some ⟨oc2, od2, .func (PySem.W.fnOf "divisor" "divisor" (defArgs s_divisor) (defBody s_divisor) (defScope s_divisor) .none kV2 dc2 pm2 an2 cd2 ct2), sl2⟩) (c2 : PySem.W.codeIn K cd2 "divisor" = true) (k2 : PySem.W.keepIn K (.ref f2) = true)
    (a3 : PySem.W.nsIn K mainGlobals "is_fraction" = some (some (.ref f3))) (l3 : K.lookup f3 = some ⟨oc3, od3, .func (PySem.W.fnOf "is_fraction" "is_fraction" (defArgs s_is_fraction) (defBody s_is_fraction) (defScope s_is_fraction) .none kV3 dc3 pm3 an3 cd3 ct3), sl3⟩) (c3 : PySem.W.codeIn K cd3 "is_fraction" = true) (k3 : PySem.W.keepIn K (.ref f3) = true)
    (a4 : PySem.W.nsIn K mainGlobals "is_price" = some (some (.ref f4))) (l4 : K.lookup f4 = some ⟨oc4, od4, .func (PySem.W.fnOf "is_price" "is_price" (defArgs s_is_price) (defBody s_is_price) (defScope s_is_price) .none kV4 dc4 pm4 an4 cd4 ct4), sl4⟩) (c4 : PySem.W.codeIn K cd4 "is_price" = true) (k4 : PySem.W.keepIn K (.ref f4) = true)
    (a5 : PySem.W.nsIn K mainGlobals "is_letter" = some (some (.ref f5))) (l5 : K.lookup f5 = some ⟨oc5, od5, .func (PySem.W.fnOf "is_letter" "is_letter" (defArgs s_is_letter) (defBody s_is_letter) (defScope s_is_letter) .none kV5 dc5 pm5 an5 cd5 ct5), sl5⟩) (c5 : PySem.W.codeIn K cd5 "is_letter" = true) (k5 : PySem.W.keepIn K (.ref f5) = true)
    (a6 : PySem.W.nsIn K mainGlobals "is_sign" = some (some (.ref f6))) (l6 : K.lookup f6 = some ⟨oc6, od6, .func (PySem.W.fnOf "is_sign" "is_sign" (defArgs s_is_sign) (defBody s_is_sign) (defScope s_is_sign) .none kV6 dc6 pm6 an6 cd6 ct6), sl6⟩) (c6 : PySem.W.codeIn K cd6 "is_sign" = true) (k6 : PySem.W.keepIn K (.ref f6) = true)
    (a7 : PySem.W.nsIn K mainGlobals "are_signs" = some (some (.ref f7))) (l7 : K.lookup f7 = some ⟨oc7, od7, .func (PySem.W.fnOf "are_signs" "are_signs" (defArgs s_are_signs) (defBody s_are_signs) (defScope s_are_signs) .none kV7 dc7 pm7 an7 cd7 ct7), sl7⟩) (c7 : PySem.W.codeIn K cd7 "are_signs" = true) (k7 : PySem.W.keepIn K (.ref f7) = true)
    (a8 : PySem.W.nsIn K mainGlobals "are_unlike_texts" = some (some (.ref f8))) (l8 : K.lookup f8 = some ⟨oc8, od8, .func (PySem.W.fnOf "are_unlike_texts" "are_unlike_texts" (defArgs s_are_unlike_texts) (defBody s_are_unlike_texts) (defScope s_are_unlike_texts) .none kV8 dc8 pm8 an8 cd8 ct8), sl8⟩) (c8 : PySem.W.codeIn K cd8 "are_unlike_texts" = true) (k8 : PySem.W.keepIn K (.ref f8) = true)
    (a9 : PySem.W.nsIn K mainGlobals "look_at_tongue" = some (some (.ref f9))) (l9 : K.lookup f9 = some ⟨oc9, od9, .func (PySem.W.fnOf "look_at_tongue" "look_at_tongue" (defArgs s_look_at_tongue) (defBody s_look_at_tongue) (defScope s_look_at_tongue) .none kV9 dc9 pm9 an9 cd9 ct9), sl9⟩) (c9 : PySem.W.codeIn K cd9 "look_at_tongue" = true) (k9 : PySem.W.keepIn K (.ref f9) = true)
    (a10 : PySem.W.nsIn K mainGlobals "comes" = some (some (.ref f10))) (l10 : K.lookup f10 = some ⟨oc10, od10, .func (PySem.W.fnOf "comes" "comes" (defArgs s_comes) (defBody s_comes) (defScope s_comes) .none kV10 dc10 pm10 an10 cd10 ct10), sl10⟩) (c10 : PySem.W.codeIn K cd10 "comes" = true) (k10 : PySem.W.keepIn K (.ref f10) = true)
    (a11 : PySem.W.nsIn K mainGlobals "may_come" = some (some (.ref f11))) (l11 : K.lookup f11 = some ⟨oc11, od11, .func (PySem.W.fnOf "may_come" "may_come" (defArgs s_may_come) (defBody s_may_come) (defScope s_may_come) .none kV11 dc11 pm11 an11 cd11 ct11), sl11⟩) (c11 : PySem.W.codeIn K cd11 "may_come" = true) (k11 : PySem.W.keepIn K (.ref f11) = true)
    (a12 : PySem.W.nsIn K mainGlobals "prices_in" = some (some (.ref f12))) (l12 : K.lookup f12 = some ⟨oc12, od12, .func (PySem.W.fnOf "prices_in" "prices_in" (defArgs s_prices_in) (defBody s_prices_in) (defScope s_prices_in) .none kV12 dc12 pm12 an12 cd12 ct12), sl12⟩) (c12 : PySem.W.codeIn K cd12 "prices_in" = true) (k12 : PySem.W.keepIn K (.ref f12) = true)
    (a13 : PySem.W.nsIn K mainGlobals "lasts_in" = some (some (.ref f13))) (l13 : K.lookup f13 = some ⟨oc13, od13, .func (PySem.W.fnOf "lasts_in" "lasts_in" (defArgs s_lasts_in) (defBody s_lasts_in) (defScope s_lasts_in) .none kV13 dc13 pm13 an13 cd13 ct13), sl13⟩) (c13 : PySem.W.codeIn K cd13 "lasts_in" = true) (k13 : PySem.W.keepIn K (.ref f13) = true)
    (a14 : PySem.W.nsIn K mainGlobals "stands" = some (some (.ref f14))) (l14 : K.lookup f14 = some ⟨oc14, od14, .func (PySem.W.fnOf "stands" "stands" (defArgs s_stands) (defBody s_stands) (defScope s_stands) .none kV14 dc14 pm14 an14 cd14 ct14), sl14⟩) (c14 : PySem.W.codeIn K cd14 "stands" = true) (k14 : PySem.W.keepIn K (.ref f14) = true)
    (a15 : PySem.W.nsIn K mainGlobals "may_stand" = some (some (.ref f15))) (l15 : K.lookup f15 = some ⟨oc15, od15, .func (PySem.W.fnOf "may_stand" "may_stand" (defArgs s_may_stand) (defBody s_may_stand) (defScope s_may_stand) .none kV15 dc15 pm15 an15 cd15 ct15), sl15⟩) (c15 : PySem.W.codeIn K cd15 "may_stand" = true) (k15 : PySem.W.keepIn K (.ref f15) = true)
    (a16 : PySem.W.nsIn K mainGlobals "is_word" = some (some (.ref f16))) (l16 : K.lookup f16 = some ⟨oc16, od16, .func (PySem.W.fnOf "is_word" "is_word" (defArgs s_is_word) (defBody s_is_word) (defScope s_is_word) .none kV16 dc16 pm16 an16 cd16 ct16), sl16⟩) (c16 : PySem.W.codeIn K cd16 "is_word" = true) (k16 : PySem.W.keepIn K (.ref f16) = true)
    (a17 : PySem.W.nsIn K mainGlobals "_law_cell" = some (some (.ref f17))) (l17 : K.lookup f17 = some ⟨oc17, od17, .func (PySem.W.fnOf "_law_cell" "_law_cell" (defArgs s__law_cell) (defBody s__law_cell) (defScope s__law_cell) .none kV17 dc17 pm17 an17 cd17 ct17), sl17⟩) (c17 : PySem.W.codeIn K cd17 "_law_cell" = true) (k17 : PySem.W.keepIn K (.ref f17) = true)
    (a18 : PySem.W.nsIn K mainGlobals "_law_source" = some (some (.ref f18))) (l18 : K.lookup f18 = some ⟨oc18, od18, .func (PySem.W.fnOf "_law_source" "_law_source" (defArgs s__law_source) (defBody s__law_source) (defScope s__law_source) .none kV18 dc18 pm18 an18 cd18 ct18), sl18⟩) (c18 : PySem.W.codeIn K cd18 "_law_source" = true) (k18 : PySem.W.keepIn K (.ref f18) = true)
    (a19 : PySem.W.nsIn K mainGlobals "_law_draw" = some (some (.ref f19))) (l19 : K.lookup f19 = some ⟨oc19, od19, .func (PySem.W.fnOf "_law_draw" "_law_draw" (defArgs s__law_draw) (defBody s__law_draw) (defScope s__law_draw) .none kV19 dc19 pm19 an19 cd19 ct19), sl19⟩) (c19 : PySem.W.codeIn K cd19 "_law_draw" = true) (k19 : PySem.W.keepIn K (.ref f19) = true)
    (a20 : PySem.W.nsIn K mainGlobals "_law_lowest" = some (some (.ref f20))) (l20 : K.lookup f20 = some ⟨oc20, od20, .func (PySem.W.fnOf "_law_lowest" "_law_lowest" (defArgs s__law_lowest) (defBody s__law_lowest) (defScope s__law_lowest) .none kV20 dc20 pm20 an20 cd20 ct20), sl20⟩) (c20 : PySem.W.codeIn K cd20 "_law_lowest" = true) (k20 : PySem.W.keepIn K (.ref f20) = true)
    (a21 : PySem.W.nsIn K mainGlobals "_law_price" = some (some (.ref f21))) (l21 : K.lookup f21 = some ⟨oc21, od21, .func (PySem.W.fnOf "_law_price" "_law_price" (defArgs s__law_price) (defBody s__law_price) (defScope s__law_price) .none kV21 dc21 pm21 an21 cd21 ct21), sl21⟩) (c21 : PySem.W.codeIn K cd21 "_law_price" = true) (k21 : PySem.W.keepIn K (.ref f21) = true)
    (a22 : PySem.W.nsIn K mainGlobals "_law_signs" = some (some (.ref f22))) (l22 : K.lookup f22 = some ⟨oc22, od22, .func (PySem.W.fnOf "_law_signs" "_law_signs" (defArgs s__law_signs) (defBody s__law_signs) (defScope s__law_signs) .none kV22 dc22 pm22 an22 cd22 ct22), sl22⟩) (c22 : PySem.W.codeIn K cd22 "_law_signs" = true) (k22 : PySem.W.keepIn K (.ref f22) = true)
    (a23 : PySem.W.nsIn K mainGlobals "_law_tongue" = some (some (.ref f23))) (l23 : K.lookup f23 = some ⟨oc23, od23, .func (PySem.W.fnOf "_law_tongue" "_law_tongue" (defArgs s__law_tongue) (defBody s__law_tongue) (defScope s__law_tongue) .none kV23 dc23 pm23 an23 cd23 ct23), sl23⟩) (c23 : PySem.W.codeIn K cd23 "_law_tongue" = true) (k23 : PySem.W.keepIn K (.ref f23) = true)
    (a24 : PySem.W.nsIn K mainGlobals "_law_copy" = some (some (.ref f24))) (l24 : K.lookup f24 = some ⟨oc24, od24, .func (PySem.W.fnOf "_law_copy" "_law_copy" (defArgs s__law_copy) (defBody s__law_copy) (defScope s__law_copy) .none kV24 dc24 pm24 an24 cd24 ct24), sl24⟩) (c24 : PySem.W.codeIn K cd24 "_law_copy" = true) (k24 : PySem.W.keepIn K (.ref f24) = true)
    (a25 : PySem.W.nsIn K mainGlobals "_law_comes" = some (some (.ref f25))) (l25 : K.lookup f25 = some ⟨oc25, od25, .func (PySem.W.fnOf "_law_comes" "_law_comes" (defArgs s__law_comes) (defBody s__law_comes) (defScope s__law_comes) .none kV25 dc25 pm25 an25 cd25 ct25), sl25⟩) (c25 : PySem.W.codeIn K cd25 "_law_comes" = true) (k25 : PySem.W.keepIn K (.ref f25) = true)
    (a26 : PySem.W.nsIn K mainGlobals "_law_stands" = some (some (.ref f26))) (l26 : K.lookup f26 = some ⟨oc26, od26, .func (PySem.W.fnOf "_law_stands" "_law_stands" (defArgs s__law_stands) (defBody s__law_stands) (defScope s__law_stands) .none kV26 dc26 pm26 an26 cd26 ct26), sl26⟩) (c26 : PySem.W.codeIn K cd26 "_law_stands" = true) (k26 : PySem.W.keepIn K (.ref f26) = true)
    (a27 : PySem.W.nsIn K mainGlobals "_law_is_word" = some (some (.ref f27))) (l27 : K.lookup f27 = some ⟨oc27, od27, .func (PySem.W.fnOf "_law_is_word" "_law_is_word" (defArgs s__law_is_word) (defBody s__law_is_word) (defScope s__law_is_word) .none kV27 dc27 pm27 an27 cd27 ct27), sl27⟩) (c27 : PySem.W.codeIn K cd27 "_law_is_word" = true) (k27 : PySem.W.keepIn K (.ref f27) = true)
    (a28 : PySem.W.nsIn K mainGlobals "_law_text" = some (some (.ref f28))) (l28 : K.lookup f28 = some ⟨oc28, od28, .func (PySem.W.fnOf "_law_text" "_law_text" (defArgs s__law_text) (defBody s__law_text) (defScope s__law_text) .none kV28 dc28 pm28 an28 cd28 ct28), sl28⟩) (c28 : PySem.W.codeIn K cd28 "_law_text" = true) (k28 : PySem.W.keepIn K (.ref f28) = true)
    (a29 : PySem.W.nsIn K mainGlobals "_law_thing" = some (some (.ref f29))) (l29 : K.lookup f29 = some ⟨oc29, od29, .func (PySem.W.fnOf "_law_thing" "_law_thing" (defArgs s__law_thing) (defBody s__law_thing) (defScope s__law_thing) .none kV29 dc29 pm29 an29 cd29 ct29), sl29⟩) (c29 : PySem.W.codeIn K cd29 "_law_thing" = true) (k29 : PySem.W.keepIn K (.ref f29) = true)
    (a30 : PySem.W.nsIn K mainGlobals "_law_pairs_right" = some (some (.ref f30))) (l30 : K.lookup f30 = some ⟨oc30, od30, .func (PySem.W.fnOf "_law_pairs_right" "_law_pairs_right" (defArgs s__law_pairs_right) (defBody s__law_pairs_right) (defScope s__law_pairs_right) .none kV30 dc30 pm30 an30 cd30 ct30), sl30⟩) (c30 : PySem.W.codeIn K cd30 "_law_pairs_right" = true) (k30 : PySem.W.keepIn K (.ref f30) = true)
    (a31 : PySem.W.nsIn K mainGlobals "law" = some (some (.ref f31))) (l31 : K.lookup f31 = some ⟨oc31, od31, .func (PySem.W.fnOf "law" "law" (defArgs s_law) (defBody s_law) (defScope s_law) .none kV31 dc31 pm31 an31 cd31 ct31), sl31⟩) (c31 : PySem.W.codeIn K cd31 "law" = true) (k31 : PySem.W.keepIn K (.ref f31) = true)
    (a32 : PySem.W.nsIn K mainGlobals "LETTERS" = some (some (.str "abcdefghijklmnopqrstuvwxyz" t32)))
    (a33 : PySem.W.nsIn K mainGlobals "FEWEST_SIGNS" = some (some (.int 2 t33)))
    (a34 : PySem.W.nsIn K mainGlobals "MOST_SIGNS" = some (some (.int 6 t34)))
    (a35 : PySem.W.nsIn K mainGlobals "LONGEST" = some (some (.int 8 t35)))
    (a36 : PySem.W.nsIn K mainGlobals "abs" = some none)
    (a37 : PySem.W.nsIn K mainGlobals "all" = some none)
    (a38 : PySem.W.nsIn K mainGlobals "bool" = some none)
    (a39 : PySem.W.nsIn K mainGlobals "dict" = some none)
    (a40 : PySem.W.nsIn K mainGlobals "enumerate" = some none)
    (a41 : PySem.W.nsIn K mainGlobals "int" = some none)
    (a42 : PySem.W.nsIn K mainGlobals "isinstance" = some none)
    (a43 : PySem.W.nsIn K mainGlobals "len" = some none)
    (a44 : PySem.W.nsIn K mainGlobals "list" = some none)
    (a45 : PySem.W.nsIn K mainGlobals "max" = some none)
    (a46 : PySem.W.nsIn K mainGlobals "min" = some none)
    (a47 : PySem.W.nsIn K mainGlobals "range" = some none)
    (a48 : PySem.W.nsIn K mainGlobals "set" = some none)
    (a49 : PySem.W.nsIn K mainGlobals "str" = some none)
    (a50 : PySem.W.nsIn K mainGlobals "tuple" = some none)
    : Txt K mg :=
  ⟨⟨C_DearError, C_NoTongue⟩,
   PySem.W.mg_of X G g_DearError,
   PySem.W.mg_of X G g_NoTongue,
   kit_ref n_NoTongue_DearError i_DearError t_DearError q_NoTongue_DearError,
   kit_self,
   kit_val q_NoTongue_ValueError,
   exm_ref2 b_DearError i_DearError t_DearError q_NoTongue_DearError,
   ⟨f1, _, PySem.W.mg_of X G a1, fun_mk (st := s_is_whole) l1 c1 k1, (fun_mk (st := s_is_whole) l1 c1 k1).binds (ps := ["thing"]) fun _ _ _ _ _ _ us hl => match us, hl with | [_], _ => rfl⟩,
   ⟨f2, _, PySem.W.mg_of X G a2, fun_mk (st := s_divisor) l2 c2 k2, (fun_mk (st := s_divisor) l2 c2 k2).binds (ps := ["one", "other"]) fun _ _ _ _ _ _ us hl => match us, hl with | [_, _], _ => rfl⟩,
   ⟨f3, _, PySem.W.mg_of X G a3, fun_mk (st := s_is_fraction) l3 c3 k3, (fun_mk (st := s_is_fraction) l3 c3 k3).binds (ps := ["thing"]) fun _ _ _ _ _ _ us hl => match us, hl with | [_], _ => rfl⟩,
   ⟨f4, _, PySem.W.mg_of X G a4, fun_mk (st := s_is_price) l4 c4 k4, (fun_mk (st := s_is_price) l4 c4 k4).binds (ps := ["thing"]) fun _ _ _ _ _ _ us hl => match us, hl with | [_], _ => rfl⟩,
   ⟨f5, _, PySem.W.mg_of X G a5, fun_mk (st := s_is_letter) l5 c5 k5, (fun_mk (st := s_is_letter) l5 c5 k5).binds (ps := ["thing"]) fun _ _ _ _ _ _ us hl => match us, hl with | [_], _ => rfl⟩,
   ⟨f6, _, PySem.W.mg_of X G a6, fun_mk (st := s_is_sign) l6 c6 k6, (fun_mk (st := s_is_sign) l6 c6 k6).binds (ps := ["thing"]) fun _ _ _ _ _ _ us hl => match us, hl with | [_], _ => rfl⟩,
   ⟨f7, _, PySem.W.mg_of X G a7, fun_mk (st := s_are_signs) l7 c7 k7, (fun_mk (st := s_are_signs) l7 c7 k7).binds (ps := ["thing"]) fun _ _ _ _ _ _ us hl => match us, hl with | [_], _ => rfl⟩,
   ⟨f8, _, PySem.W.mg_of X G a8, fun_mk (st := s_are_unlike_texts) l8 c8 k8, (fun_mk (st := s_are_unlike_texts) l8 c8 k8).binds (ps := ["thing", "size", "letters"]) fun _ _ _ _ _ _ us hl => match us, hl with | [_, _, _], _ => rfl⟩,
   ⟨f9, _, PySem.W.mg_of X G a9, fun_mk (st := s_look_at_tongue) l9 c9 k9, (fun_mk (st := s_look_at_tongue) l9 c9 k9).binds (ps := ["thing"]) fun _ _ _ _ _ _ us hl => match us, hl with | [_], _ => rfl⟩,
   ⟨f10, _, PySem.W.mg_of X G a10, fun_mk (st := s_comes) l10 c10 k10, (fun_mk (st := s_comes) l10 c10 k10).binds (ps := ["tongue", "ahead", "sign"]) fun _ _ _ _ _ _ us hl => match us, hl with | [_, _, _], _ => rfl⟩,
   ⟨f11, _, PySem.W.mg_of X G a11, fun_mk (st := s_may_come) l11 c11 k11, (fun_mk (st := s_may_come) l11 c11 k11).binds (ps := ["tongue", "ahead", "sign"]) fun _ _ _ _ _ _ us hl => match us, hl with | [_, _, _], _ => rfl⟩,
   ⟨f12, _, PySem.W.mg_of X G a12, fun_mk (st := s_prices_in) l12 c12 k12, (fun_mk (st := s_prices_in) l12 c12 k12).binds (ps := ["tongue"]) fun _ _ _ _ _ _ us hl => match us, hl with | [_], _ => rfl⟩,
   ⟨f13, _, PySem.W.mg_of X G a13, fun_mk (st := s_lasts_in) l13 c13 k13, (fun_mk (st := s_lasts_in) l13 c13 k13).binds (ps := ["tongue"]) fun _ _ _ _ _ _ us hl => match us, hl with | [_], _ => rfl⟩,
   ⟨f14, _, PySem.W.mg_of X G a14, fun_mk (st := s_stands) l14 c14 k14, (fun_mk (st := s_stands) l14 c14 k14).binds (ps := ["tongue", "thing"]) fun _ _ _ _ _ _ us hl => match us, hl with | [_, _], _ => rfl⟩,
   ⟨f15, _, PySem.W.mg_of X G a15, fun_mk (st := s_may_stand) l15 c15 k15, (fun_mk (st := s_may_stand) l15 c15 k15).binds (ps := ["tongue", "thing"]) fun _ _ _ _ _ _ us hl => match us, hl with | [_, _], _ => rfl⟩,
   ⟨f16, _, PySem.W.mg_of X G a16, fun_mk (st := s_is_word) l16 c16 k16, (fun_mk (st := s_is_word) l16 c16 k16).binds (ps := ["tongue", "thing"]) fun _ _ _ _ _ _ us hl => match us, hl with | [_, _], _ => rfl⟩,
   ⟨f17, _, PySem.W.mg_of X G a17, fun_mk (st := s__law_cell) l17 c17 k17, (fun_mk (st := s__law_cell) l17 c17 k17).binds (ps := ["_law_script", "_law_k"]) fun _ _ _ _ _ _ us hl => match us, hl with | [_, _], _ => rfl⟩,
   ⟨f18, _, PySem.W.mg_of X G a18, fun_mk (st := s__law_source) l18 c18 k18, (fun_mk (st := s__law_source) l18 c18 k18).binds (ps := ["_law_cell_here", "_law_k"]) fun _ _ _ _ _ _ us hl => match us, hl with | [_, _], _ => rfl⟩,
   ⟨f19, _, PySem.W.mg_of X G a19, fun_mk (st := s__law_draw) l19 c19 k19, (fun_mk (st := s__law_draw) l19 c19 k19).binds (ps := ["_law_source_here", "_law_many"]) fun _ _ _ _ _ _ us hl => match us, hl with | [_, _], _ => rfl⟩,
   ⟨f20, _, PySem.W.mg_of X G a20, fun_mk (st := s__law_lowest) l20 c20 k20, (fun_mk (st := s__law_lowest) l20 c20 k20).binds (ps := ["_law_top", "_law_bottom"]) fun _ _ _ _ _ _ us hl => match us, hl with | [_, _], _ => rfl⟩,
   ⟨f21, _, PySem.W.mg_of X G a21, fun_mk (st := s__law_price) l21 c21 k21, (fun_mk (st := s__law_price) l21 c21 k21).binds (ps := ["_law_source_here"]) fun _ _ _ _ _ _ us hl => match us, hl with | [_], _ => rfl⟩,
   ⟨f22, _, PySem.W.mg_of X G a22, fun_mk (st := s__law_signs) l22 c22 k22, (fun_mk (st := s__law_signs) l22 c22 k22).binds (ps := ["_law_source_here", "_law_many"]) fun _ _ _ _ _ _ us hl => match us, hl with | [_, _], _ => rfl⟩,
   ⟨f23, _, PySem.W.mg_of X G a23, fun_mk (st := s__law_tongue) l23 c23 k23, (fun_mk (st := s__law_tongue) l23 c23 k23).binds (ps := ["_law_script", "_law_base", "_law_most", "_law_longs"]) fun _ _ _ _ _ _ us hl => match us, hl with | [_, _, _, _], _ => rfl⟩,
   ⟨f24, _, PySem.W.mg_of X G a24, fun_mk (st := s__law_copy) l24 c24 k24, (fun_mk (st := s__law_copy) l24 c24 k24).binds (ps := ["_law_tongue_here"]) fun _ _ _ _ _ _ us hl => match us, hl with | [_], _ => rfl⟩,
   ⟨f25, _, PySem.W.mg_of X G a25, fun_mk (st := s__law_comes) l25 c25 k25, (fun_mk (st := s__law_comes) l25 c25 k25).binds (ps := ["_law_tongue_here", "_law_ahead", "_law_sign"]) fun _ _ _ _ _ _ us hl => match us, hl with | [_, _, _], _ => rfl⟩,
   ⟨f26, _, PySem.W.mg_of X G a26, fun_mk (st := s__law_stands) l26 c26 k26, (fun_mk (st := s__law_stands) l26 c26 k26).binds (ps := ["_law_tongue_here", "_law_thing_here"]) fun _ _ _ _ _ _ us hl => match us, hl with | [_, _], _ => rfl⟩,
   ⟨f27, _, PySem.W.mg_of X G a27, fun_mk (st := s__law_is_word) l27 c27 k27, (fun_mk (st := s__law_is_word) l27 c27 k27).binds (ps := ["_law_tongue_here", "_law_thing_here"]) fun _ _ _ _ _ _ us hl => match us, hl with | [_, _], _ => rfl⟩,
   ⟨f28, _, PySem.W.mg_of X G a28, fun_mk (st := s__law_text) l28 c28 k28, (fun_mk (st := s__law_text) l28 c28 k28).binds (ps := ["_law_tongue_here", "_law_source_here"]) fun _ _ _ _ _ _ us hl => match us, hl with | [_, _], _ => rfl⟩,
   ⟨f29, _, PySem.W.mg_of X G a29, fun_mk (st := s__law_thing) l29 c29 k29, (fun_mk (st := s__law_thing) l29 c29 k29).binds (ps := ["_law_tongue_here", "_law_source_here"]) fun _ _ _ _ _ _ us hl => match us, hl with | [_, _], _ => rfl⟩,
   ⟨f30, _, PySem.W.mg_of X G a30, fun_mk (st := s__law_pairs_right) l30 c30 k30, (fun_mk (st := s__law_pairs_right) l30 c30 k30).binds (ps := ["_law_tongue_here"]) fun _ _ _ _ _ _ us hl => match us, hl with | [_], _ => rfl⟩,
   ⟨f31, _, PySem.W.mg_of X G a31, fun_mk (st := s_law) l31 c31 k31, (fun_mk (st := s_law) l31 c31 k31).binds (ps := ["_law_script"]) fun _ _ _ _ _ _ us hl => match us, hl with | [_], _ => rfl⟩,
   ⟨_, PySem.W.mg_of X G a32⟩,
   ⟨_, PySem.W.mg_of X G a33⟩,
   ⟨_, PySem.W.mg_of X G a34⟩,
   ⟨_, PySem.W.mg_of X G a35⟩,
   PySem.W.mg_none_of X G a36,
   PySem.W.mg_none_of X G a37,
   PySem.W.mg_none_of X G a38,
   PySem.W.mg_none_of X G a39,
   PySem.W.mg_none_of X G a40,
   PySem.W.mg_none_of X G a41,
   PySem.W.mg_none_of X G a42,
   PySem.W.mg_none_of X G a43,
   PySem.W.mg_none_of X G a44,
   PySem.W.mg_none_of X G a45,
   PySem.W.mg_none_of X G a46,
   PySem.W.mg_none_of X G a47,
   PySem.W.mg_none_of X G a48,
   PySem.W.mg_none_of X G a49,
   PySem.W.mg_none_of X G a50⟩
end Dear


namespace Dear
open PySem PySem.Spec PyProof.Rows L2
section
variable {P : Program} {w : World} {K : PySem.W.Frag} {mg : Str → Option Value} {base : Heap}
theorem o__law_source (T : Txt K mg) : OkF P w K mg base CX0 1 "_law_source" ["_law_cell_here", "_law_k"] spSource := by
  refine T.f__law_source.ok c__law_source (fun vs H Q E h => ?_) (fun f cdv A outer s H vs Q E hr h => ?_)
  · obtain ⟨c, k, rfl, _⟩ := h
    rfl
  · obtain ⟨c, k, rfl, q⟩ := h
    refine ⟨_, (pss_cons (ps_set (i := 2) c__law_source.nd rfl (Or.inl rfl) (pe_callB call_abs (by rfl) T.b_abs (by decide +kernel) (pa_cons (pv 0) pa_nil)))
(pss_cons (ps_set (i := 3) c__law_source.nd rfl (Or.inl rfl) (pe_op op_mod (pe_op op_mul (pe_op op_add (pe_op op_add (pe_op op_mod (pv 2) pe_int) (pe_op op_mul pe_int (pv 1))) pe_int) pe_int) pe_int))
(pss_one (ps_ret (pe_lst (pa_cons (pe_op op_mul (pv 2) (pe_callTy call_int1 (by rfl) T.b_int (by decide +kernel) (pa_cons (pe_cmpR op_ge (pv 2) (pe_op op_pow pe_int pe_int) (nomark _)) pa_nil))) (pa_cons (pv 3) pa_nil))))))), ?_⟩
    refine ⟨_, rfl, _, rfl, ?_⟩
    refine ⟨_, rfl, _, _, rfl, rfl, (by show (0 : Int) < 1000003; decide), _, rfl, _, _, rfl, rfl, .inl ⟨by decide, by decide⟩, _, _, rfl, rfl, _, _, rfl, rfl, _, _, rfl, rfl, .inr ⟨by decide, by decide⟩, _, _, rfl, rfl, (by show (0 : Int) < 2147483647; decide), ?_⟩
    refine ⟨_, rfl, _, rfl, _, _, rfl, rfl, ⟨by decide, by decide, by decide⟩, _, _, rfl, rfl, .inr ⟨_, rfl, _, _, rfl, rfl, .inr (bit_lt _), _, rfl, (by show 2 ≤ sizeLine; decide), fun l hl => ?_⟩⟩
    · refine q l _ hl (Same.upd hl) ⟨_, _, upd_same, ?_, Int.emod_nonneg _ (by decide), Int.emod_lt_of_pos _ (by decide)⟩
      refine Int.mul_nonneg ?_ ?_
      · split <;> omega
      · exact bit_ge _
theorem o__law_draw (T : Txt K mg) : OkF P w K mg base CX0 1 "_law_draw" ["_law_source_here", "_law_many"] spDraw := by
  refine T.f__law_draw.ok c__law_draw (fun vs H Q E h => ?_) (fun f cdv A outer s H vs Q E hr h => ?_)
  · obtain ⟨l, m, rfl, _⟩ := h
    rfl
  · obtain ⟨l, m, rfl, ⟨n, z, h1, hn, hz, hz2⟩, hm, hm9, q⟩ := h
    refine ⟨_, (pss_cons (ps_if (pt_cmpR op_gt (pe_ix (ix_list_k K) (pv 0) pe_int (fun _ _ => rfl)) pe_int (nomark _))
(pss_cons (ps_set (i := 2) c__law_draw.nd rfl (Or.inl rfl) (pe_op op_mod (pe_ix (ix_list_k K) (pv 0) pe_int (fun _ _ => rfl)) (pv 1)))
(pss_cons (ps_asg (pe_op op_fdivW (pe_ix (ix_list_k K) (pv 0) pe_int (fun _ _ => rfl)) (pv 1)) (pg_sub (pv 0) pe_int set_list))
(pss_one (ps_ret (pv 2)))))
pss_nil)
(pss_cons (ps_asg (pe_op op_mod (pe_op op_add (pe_op op_mul (pe_ix (ix_list_k K) (pv 0) pe_int (fun _ _ => rfl)) pe_int) pe_int) pe_int) (pg_sub (pv 0) pe_int set_list))
(pss_one (ps_ret (pe_op op_mod (pe_op op_fdivW (pe_op op_mod (pe_op op_mul (pe_ix (ix_list_k K) (pv 0) pe_int (fun _ _ => rfl)) (pe_ix (ix_list_k K) (pv 0) pe_int (fun _ _ => rfl))) pe_int) pe_int) (pv 1)))))), ?_⟩
    refine ⟨_, rfl, _, _, _, _, rfl, rfl, SqL.of h1, rfl, _, _, rfl, rfl, _, rfl, itd (fun c => ?_) fun c => ?_⟩
    · refine ⟨_, rfl, _, _, _, _, rfl, rfl, SqL.of h1, rfl, _, rfl, _, _, rfl, rfl, hm, ?_⟩
      refine ⟨_, rfl, _, _, _, _, rfl, rfl, SqL.of h1, rfl, _, rfl, _, _, rfl, rfl, ⟨hm, hm9⟩, _, rfl, _, _, _, _, rfl, rfl, h1, rfl, ?_⟩
      refine ⟨_, rfl, ?_⟩
      exact q _ _ (Int.emod_nonneg _ (by omega)) (Int.emod_lt_of_pos _ hm) But.upd ⟨_, _, upd_same, Int.ediv_nonneg (by omega) (by omega), hz, hz2⟩
    · refine ⟨_, rfl, _, _, _, _, rfl, rfl, SqL.of h1, rfl, _, _, rfl, rfl, .inr ⟨by decide, by decide⟩, _, _, rfl, rfl, _, _, rfl, rfl, (by show (0 : Int) < 2147483647; decide), _, rfl, _, _, _, _, rfl, rfl, h1, rfl, ?_⟩
      have b0 : 0 ≤ (z * 48271 + 11) % 2147483647 := Int.emod_nonneg _ (by decide)
      have b1 : (z * 48271 + 11) % 2147483647 < 2147483647 := Int.emod_lt_of_pos _ (by decide)
      refine ⟨_, rfl, _, _, _, _, rfl, rfl, SqL.of upd_same, rfl, _, rfl, _, _, _, _, rfl, rfl, SqL.of upd_same, rfl, _, _, rfl, rfl, .inl ⟨by omega, by omega⟩, _, _, rfl, rfl, (by show (0 : Int) < 2147483629; decide), _, _, rfl, rfl, ⟨by decide, by decide⟩, _, rfl, _, _, rfl, rfl, hm, ?_⟩
      exact q _ _ (Int.emod_nonneg _ (by omega)) (Int.emod_lt_of_pos _ hm) But.upd ⟨_, _, upd_same, hn, b0, b1⟩
end
end Dear

namespace Dear
open PySem PySem.Spec PyProof.Rows L2
section
variable {P : Program} {w : World} {K : PySem.W.Frag} {mg : Str → Option Value} {base : Heap}
theorem o_is_whole (T : Txt K mg) : OkF P w K mg base CX0 1 "is_whole" ["thing"] spWhole := by
  refine T.f_is_whole.ok c_is_whole (fun vs H Q E h => ?_) (fun f cdv A outer s H vs Q E hr h => ?_)
  · obtain ⟨v, n, rfl, _⟩ := h
    rfl
  · obtain ⟨v, d, rfl, hI, k⟩ := h
    refine ⟨_, (pss_one (ps_ret (pe_and (pe_callB (call_isi_k K) (by rfl) T.b_isinstance (by decide +kernel) (pa_cons (pv 0) (pa_cons (pe_bltn (v := .ty "int") (by rfl) T.b_int (by decide +kernel) rfl) pa_nil))) (pe_one (pe_not (pe_callB (call_isi_k K) (by rfl) T.b_isinstance (by decide +kernel) (pa_cons (pv 0) (pa_cons (pe_bltn (v := .ty "bool") (by rfl) T.b_bool (by decide +kernel) rfl) pa_nil)))))))), ?_⟩
    refine ⟨_, rfl, _, _, _, _, _, rfl, .ty _, hI.ty, kit_ty (kd_int d), _, rfl, ?_⟩
    cases d with
    | int i => exact iteT ⟨_, rfl, _, _, _, _, _, rfl, .ty _, hI.ty, kit_ty (kd_bool _), _, rfl, k⟩
    | bl i => exact iteT ⟨_, rfl, _, _, _, _, _, rfl, .ty _, hI.ty, kit_ty (kd_bool _), _, rfl, k⟩
    | non => exact iteF k
    | str z => exact iteF k
    | lst z => exact iteF k
    | tup z => exact iteF k
    | dct => exact iteF k
theorem o_divisor (T : Txt K mg) : OkF P w K mg base CX0 1 "divisor" ["one", "other"] spDivisor := by
  refine T.f_divisor.ok c_divisor (fun vs H Q E h => ?_) (fun f cdv A outer s H vs Q E hr h => ?_)
  · obtain ⟨v, n, rfl, _⟩ := h
    rfl
  · obtain ⟨a, b, rfl, ha, hb, k⟩ := h
    refine ⟨_, (pss_cons (ps_while PassesOwn.never (pt_cmpR op_gt (pv 1) pe_int (nomark _))
(pss_one (ps_par (by rfl) c_divisor.nd (i := 0) (j := 1) rfl rfl (by decide) rfl rfl (pa_cons (pv 1) (pa_cons (pe_op op_mod (pv 0) (pv 1)) pa_nil)) (by rfl))))
(pss_one (ps_ret (pv 0)))), ?_⟩
    refine while_by (fun σ H' => H' = H ∧ ∃ x y : Int, σ = [some (.int x), some (.int y)] ∧ 0 ≤ x ∧ 0 ≤ y ∧ Int.gcd x y = Int.gcd a b) (fun σ _ => match σ with | [_, some (.int y)] => y.toNat | _ => 0) ⟨rfl, a, b, rfl, ha, hb, rfl⟩ ?_ ?_
    · rintro σ H' ⟨rfl, x, y, rfl, hx, hy, e⟩
      refine ⟨_, rfl, _, _, rfl, rfl, _, rfl, itd (fun c => ?_) fun c => ?_⟩
      · refine ⟨_, rfl, _, rfl, _, rfl, _, _, rfl, rfl, c, _, _, rfl, ⟨rfl, y, x % y, rfl, hy, Int.emod_nonneg _ (by omega), ?_⟩, ?_⟩
        · rw [gcd_step hx c]
          exact e
        · show (x % y).toNat < y.toNat
          have := Int.emod_lt_of_pos x c
          omega
      · have : y = 0 := by omega
        subst this
        refine ⟨_, rfl, ?_⟩
        rw [← e, Int.gcd_zero_right] at k
        have e2 : ((x.natAbs : Nat) : Int) = x := by omega
        rw [e2] at k
        exact k
    · rintro σ H Q Q' hq ⟨v, e1, i, j, e2, e3, x, e4, q⟩
      exact ⟨v, e1, i, j, e2, e3, x, e4, hq _ _ q⟩
theorem o_is_fraction (T : Txt K mg) : OkF P w K mg base CX0 2 "is_fraction" ["thing"] spFr := by
  have o_is_whole := o_is_whole (P := P) (w := w) (base := base) T
  have o_divisor := o_divisor (P := P) (w := w) (base := base) T
  refine T.f_is_fraction.ok c_is_fraction (fun vs H Q E h => ?_) (fun f cdv A outer s H vs Q E hr h => ?_)
  · obtain ⟨v, n, rfl, _⟩ := h
    rfl
  · obtain ⟨v, d, rfl, hI, ok, k⟩ := h
    refine ⟨_, (pss_cons (ps_if (PW.pt (pw_or (pt_not (pt_val (pe_callB (call_isi_k K) (by rfl) T.b_isinstance (by decide +kernel) (pa_cons (pv 0) (pa_cons (pe_bltn (v := .ty "tuple") (by rfl) T.b_tuple (by decide +kernel) rfl) pa_nil))))) (pw_or1 (pt_cmpR op_ne (pe_callB (call_len_seq_k K) (by rfl) T.b_len PySem.boot_len (pa_cons (pv 0) pa_nil)) pe_int (nomark _)))))
(pss_one (ps_ret pe_bl))
pss_nil)
(pss_cons (ps_asg (pv 0) (pg_tup_k K (n := 2) rfl (pgs_cons (pg_name (i := 1) c_is_fraction.nd rfl (Or.inl rfl)) (pgs_cons (pg_name (i := 2) c_is_fraction.nd rfl (Or.inl rfl)) pgs_nil))))
(pss_cons (ps_if (PW.pt (pw_or (pt_not (pt_val (pe_c o_is_whole hr (pa_cons (pv 1) pa_nil)))) (pw_or (pt_not (pt_val (pe_c o_is_whole hr (pa_cons (pv 2) pa_nil)))) (pw_or1 (pt_cmpR op_lt (pv 2) pe_int (nomark _))))))
(pss_one (ps_ret pe_bl))
pss_nil)
(pss_one (ps_ret (pe_cmpR op_eq (pe_c o_divisor hr (pa_cons (pv 2) (pa_cons (pe_callB call_abs (by rfl) T.b_abs (by decide +kernel) (pa_cons (pv 1) pa_nil)) pa_nil))) pe_int (nomark _))))))), ?_⟩
    refine ⟨_, rfl, _, _, _, _, _, rfl, .ty _, hI.ty, kit_ty (kd_tuple d), _, rfl, ?_⟩
    have other : isTup d = false → isFr d = false := fun e => by
      cases d with
      | tup z => cases e
      | _ => rfl
    cases e : isTup d with
    | false =>
      rw [other e] at k
      exact iteT (k H (Same.refl H))
    | true =>
      refine iteF ?_
      cases hI with
      | tup ha hall =>
        rename_i a xs ds
        refine ⟨_, rfl, _, _, rfl, .inr (SqT.of ha), rfl, _, rfl, ?_⟩
        by_cases hl : xs.length = 2
        · have e2 : decide (V.int ((xs.length : Nat) : Int) = V.int 2) = true := by rw [hl]; decide
          rw [e2]
          refine iteF ?_
          match xs, ds, hall, hl with
          | [x, y], _, .cons (d := d1) h1 (.cons (d := d2) h2 .nil), _ =>
            refine ⟨_, rfl, _, _, rfl, SqT.of ha, rfl, _, _, rfl, _, _, rfl, rfl, ?_⟩
            refine ⟨_, rfl, _, _, rfl, h1, _, rfl, ?_⟩
            cases h1 with
            | int t =>
              refine iteF ⟨_, rfl, _, _, rfl, h2, _, rfl, ?_⟩
              cases h2 with
              | int b =>
                refine iteF ⟨_, rfl, _, _, rfl, rfl, _, rfl, itd (fun c => ?_) fun c => ?_⟩
                · have e3 : isFr (.tup [.int t, .int b]) = false := by
                    show (decide (0 < b) && _) = false
                    rw [decide_eq_false (by omega), Bool.false_and]
                  rw [e3] at k
                  exact k H (Same.refl H)
                · refine ⟨_, rfl, _, rfl, _, rfl, _, _, rfl, by omega, ?_, rfl, ?_⟩
                  · split <;> omega
                  · rw [abs_if, gcd_abs]
                    have e3 : isFr (.tup [.int t, .int b]) = decide (V.int ((Int.gcd b t : Nat) : Int) = V.int 1) := by
                      show (decide (0 < b) && (Int.gcd b t == 1)) = _
                      rw [decide_eq_true (by omega), Bool.true_and, dec_int]
                      by_cases z : Int.gcd b t = 1
                      · rw [z]; rfl
                      · have z1 : (Int.gcd b t == 1) = false := by simpa using z
                        have z2 : (((Int.gcd b t : Nat) : Int) == 1) = false := by
                          simp only [beq_eq_false_iff_ne, ne_eq]
                          omega
                        rw [z1, z2]
                    rw [e3] at k
                    exact k H (Same.refl H)
              | _ => exact iteT (k H (Same.refl H))
            | _ => exact iteT (k H (Same.refl H))
        · have e2 : decide (V.int ((xs.length : Nat) : Int) = V.int 2) = false := by
            rw [dec_int]
            simp only [beq_eq_false_iff_ne, ne_eq]
            omega
          rw [e2]
          refine iteT ?_
          have e3 : isFr (.tup ds) = false := isFr_len (by rw [← hall.length]; exact hl)
          rw [e3] at k
          exact k H (Same.refl H)
      | non => cases e
      | bl _ => cases e
      | int _ => cases e
      | str _ => cases e
      | lst _ _ => cases e
      | dct _ => cases e
end
end Dear

namespace Dear
open PySem PySem.Spec PyProof.Rows L2
section
variable {P : Program} {w : World} {K : PySem.W.Frag} {mg : Str → Option Value} {base : Heap}
theorem o__law_lowest (T : Txt K mg) : OkF P w K mg base CX0 1 "_law_lowest" ["_law_top", "_law_bottom"] spLowest := by
  refine T.f__law_lowest.ok c__law_lowest (fun vs H Q E h => ?_) (fun f cdv A outer s H vs Q E hr h => ?_)
  · obtain ⟨v, n, rfl, _⟩ := h
    rfl
  · obtain ⟨t, b, rfl, hb, hl, k⟩ := h
    refine ⟨_, (pss_cons (ps_set (i := 2) c__law_lowest.nd rfl (Or.inl rfl) (pv 1))
(pss_cons (ps_set (i := 3) c__law_lowest.nd rfl (Or.inl rfl) (pe_callB call_abs (by rfl) T.b_abs (by decide +kernel) (pa_cons (pv 0) pa_nil)))
(pss_cons (ps_while PassesOwn.never (pt_cmpR op_gt (pv 3) pe_int (nomark _))
(pss_one (ps_par (by rfl) c__law_lowest.nd (i := 2) (j := 3) rfl rfl (by decide) rfl rfl (pa_cons (pv 3) (pa_cons (pe_op op_mod (pv 2) (pv 3)) pa_nil)) (by rfl))))
(pss_one (ps_ret (pe_tup (pa_cons (pe_op op_fdivW (pv 0) (pv 2)) (pa_cons (pe_op op_fdivW (pv 1) (pv 2)) pa_nil)))))))), ?_⟩
    refine ⟨_, rfl, ?_⟩
    refine ⟨_, rfl, _, rfl, ?_⟩
    rw [abs_if]
    refine while_by (fun σ H' => H' = H ∧ ∃ x y : Int, σ = [some (.int t), some (.int b), some (.int x), some (.int y)] ∧ 0 ≤ x ∧ 0 ≤ y ∧ Int.gcd x y = Int.gcd b t) (fun σ _ => match σ with | [_, _, _, some (.int y)] => y.toNat | _ => 0) ⟨rfl, b, _, rfl, by omega, by omega, gcd_abs b t⟩ ?_ ?_
    · rintro σ H' ⟨rfl, x, y, rfl, hx, hy, e⟩
      refine ⟨_, rfl, _, _, rfl, rfl, _, rfl, itd (fun c => ?_) fun c => ?_⟩
      · refine ⟨_, rfl, _, rfl, _, rfl, _, _, rfl, rfl, c, _, _, rfl, ⟨rfl, y, x % y, rfl, hy, Int.emod_nonneg _ (by omega), ?_⟩, ?_⟩
        · rw [gcd_step hx c]
          exact e
        · show (x % y).toNat < y.toNat
          have := Int.emod_lt_of_pos x c
          omega
      · have : y = 0 := by omega
        subst this
        rw [Int.gcd_zero_right] at e
        have e2 : x = ((Int.gcd b t : Nat) : Int) := by omega
        subst e2
        refine ⟨_, rfl, _, rfl, _, _, rfl, rfl, ⟨gcd_pos t hb, gcd_log t hb hl⟩, _, rfl, _, rfl, _, _, rfl, rfl, ⟨gcd_pos t hb, gcd_log t hb hl⟩, (by show 2 ≤ sizeLine; decide), fun p hp => ?_⟩
        exact k p _ hp (Same.upd hp) upd_same
    · rintro σ H Q Q' hq ⟨v, e1, i, j, e2, e3, x, e4, q⟩
      exact ⟨v, e1, i, j, e2, e3, x, e4, hq _ _ q⟩
theorem eqv_two (a b c d : Int) : PyData.eqv (.tuple [.int a, .int b]) (.tuple [.int c, .int d]) = ((a == c) && (b == d)) := by
  simp [PyData.eqv, PyData.eqvAll]
theorem shaped_two (a b : Int) : SeqAt.shaped (.tuple [.int a, .int b]) = true := by
  simp [SeqAt.shaped, PyData.canLay0, PyData.canLayAll0, PyData.depth, PyData.depthAll]
end
end Dear

namespace Dear
open PySem PySem.Spec PyProof.Rows L2
/-! ### fractions made of two whole numbers -/
theorem gcd_dvd_t (t b : Int) : (Int.gcd b t : Int) ∣ t := Int.gcd_dvd_right ..
theorem gcd_dvd_b (t b : Int) : (Int.gcd b t : Int) ∣ b := Int.gcd_dvd_left ..
theorem low_mul (t b : Int) (h : 0 < b) : lowT t b * (Int.gcd b t : Int) = t ∧ lowB t b * (Int.gcd b t : Int) = b := ⟨Int.ediv_mul_cancel (gcd_dvd_t t b), Int.ediv_mul_cancel (gcd_dvd_b t b)⟩
theorem low_fr (t b : Int) (h : 0 < b) : 0 < lowB t b ∧ Int.gcd (lowB t b) (lowT t b) = 1 := by
  have g := gcd_pos t h
  obtain ⟨e1, e2⟩ := low_mul t b h
  constructor
  · rcases Int.lt_or_le 0 (lowB t b) with z | z
    · exact z
    · have := Int.mul_nonpos_of_nonpos_of_nonneg z (Int.le_of_lt g)
      omega
  · have g' : 0 < Nat.gcd b.natAbs t.natAbs := by
      have : ((Int.gcd b t : Nat) : Int) = ((Nat.gcd b.natAbs t.natAbs : Nat) : Int) := rfl
      omega
    have n1 : (lowT t b).natAbs = t.natAbs / Nat.gcd b.natAbs t.natAbs := by
      have := congrArg Int.natAbs e1
      rw [Int.natAbs_mul] at this
      have e : ((Int.gcd b t : Nat) : Int).natAbs = Nat.gcd b.natAbs t.natAbs := Int.natAbs_natCast _
      rw [e] at this
      exact (Nat.div_eq_of_eq_mul_left g' this.symm).symm
    have n2 : (lowB t b).natAbs = b.natAbs / Nat.gcd b.natAbs t.natAbs := by
      have := congrArg Int.natAbs e2
      rw [Int.natAbs_mul] at this
      have e : ((Int.gcd b t : Nat) : Int).natAbs = Nat.gcd b.natAbs t.natAbs := Int.natAbs_natCast _
      rw [e] at this
      exact (Nat.div_eq_of_eq_mul_left g' this.symm).symm
    show Nat.gcd (lowB t b).natAbs (lowT t b).natAbs = 1
    rw [n1, n2, Nat.gcd_div (Nat.gcd_dvd_left _ _) (Nat.gcd_dvd_right _ _)]
    exact Nat.div_self g'
theorem low_small (t b : Int) (h : 0 < b) : (lowT t b).natAbs ≤ t.natAbs ∧ (lowB t b).natAbs ≤ b.natAbs := by
  have g := gcd_pos t h
  obtain ⟨e1, e2⟩ := low_mul t b h
  have key : ∀ x y : Int, x * (Int.gcd b t : Int) = y → x.natAbs ≤ y.natAbs := fun x y e => by
    rw [← e, Int.natAbs_mul]
    exact Nat.le_mul_of_pos_right _ (by omega)
  exact ⟨key _ _ e1, key _ _ e2⟩
/-- worth the two crosswise -/
theorem low_cross (t b : Int) (h : 0 < b) : lowT t b * b = t * lowB t b := by
  obtain ⟨e1, e2⟩ := low_mul t b h
  have a : lowT t b * b = lowT t b * (lowB t b * (Int.gcd b t : Int)) := by rw [e2]
  have c : t * lowB t b = lowT t b * (Int.gcd b t : Int) * lowB t b := by rw [e1]
  rw [a, c, Int.mul_assoc, Int.mul_comm (Int.gcd b t : Int)]
def frT (t b : Int) : Int := if b < 0 then lowT (0 - t) (0 - b) else lowT t b
def frB (t b : Int) : Int := if b < 0 then lowB (0 - t) (0 - b) else lowB t b
theorem fr_cross {t b : Int} (h : b ≠ 0) : frT t b * b = t * frB t b := by
  unfold frT frB
  by_cases c : b < 0
  · rw [if_pos c, if_pos c]
    have := low_cross (0 - t) (0 - b) (by omega)
    generalize lowT (0 - t) (0 - b) = x at this ⊢
    generalize lowB (0 - t) (0 - b) = y at this ⊢
    rw [Int.mul_sub, Int.sub_mul, Int.mul_zero, Int.zero_mul, Int.zero_sub, Int.zero_sub] at this
    exact Int.neg_inj.mp this
  · rw [if_neg c, if_neg c]
    exact low_cross t b (by omega)
theorem fr_fr {t b : Int} (h : b ≠ 0) : isFr (.tup [.int (frT t b), .int (frB t b)]) = true := by
  show (decide (0 < frB t b) && (Int.gcd (frB t b) (frT t b) == 1)) = true
  unfold frT frB
  by_cases c : b < 0
  · obtain ⟨h1, h2⟩ := low_fr (0 - t) (0 - b) (by omega)
    rw [if_pos c, if_pos c, decide_eq_true h1, h2]
    rfl
  · obtain ⟨h1, h2⟩ := low_fr t b (by omega)
    rw [if_neg c, if_neg c, decide_eq_true h1, h2]
    rfl
theorem fr_small {t b : Int} (h : b ≠ 0) : (frT t b).natAbs ≤ t.natAbs ∧ (frB t b).natAbs ≤ b.natAbs := by
  unfold frT frB
  by_cases c : b < 0
  · obtain ⟨h1, h2⟩ := low_small (0 - t) (0 - b) (by omega)
    rw [if_pos c, if_pos c]
    omega
  · rw [if_neg c, if_neg c]
    exact low_small t b (by omega)
/-- two whole numbers, the second not 0 -/
def twoOk : D → D → Bool
  | .int _, .int b => !decide (b = 0)
  | _, _ => false
/-- fraction(top, bottom): a new tuple, or a refusal of the class at C -/
def spFraction (C : Addr) : Sp := fun vs H Q E => ∃ (v1 v2 : V) (d1 d2 : D), vs = [v1, v2] ∧ Dt H v1 d1 ∧ Dt H v2 d2 ∧ Ok d2 ∧
  (∀ t b : Int, d1 = .int t → d2 = .int b → b ≠ 0 → ∀ (p : Addr) (H' : Hp), H p = none → Same H H' → H' p = some (.tup [.int (frT t b), .int (frB t b)]) → Q (.ref p) H') ∧
  (twoOk d1 d2 = false → E (.ref C) none H)
section
variable {P : Program} {w : World} {K : PySem.W.Frag} {mg : Str → Option Value} {base : Heap}
end
end Dear

namespace Dear
open PySem PySem.Spec PyProof.Rows L2
/-! ### fractions reckoned -/
/-- a fraction at p: two whole numbers below 2 ^ n, the second above 0 -/
structure Fq (H : Hp) (p : Addr) (x : Int × Int) (n : Nat) : Prop where
  at_ : H p = some (.tup [.int x.1, .int x.2])
  pos : 0 < x.2
  t : x.1.natAbs < 2 ^ n
  b : x.2.natAbs < 2 ^ n
theorem Fq.same {H H' : Hp} {p : Addr} {x : Int × Int} {n : Nat} (f : Fq H p x n) (s : Same H H') : Fq H' p x n := ⟨s _ _ f.at_, f.pos, f.t, f.b⟩
theorem Fq.mono {H : Hp} {p : Addr} {x : Int × Int} {n m : Nat} (f : Fq H p x n) (h : n ≤ m) : Fq H p x m :=
  ⟨f.at_, f.pos, Nat.lt_of_lt_of_le f.t (Nat.pow_le_pow_right (by decide) h), Nat.lt_of_lt_of_le f.b (Nat.pow_le_pow_right (by decide) h)⟩
def lowF (t b : Int) : Int × Int := (lowT t b, lowB t b)
theorem low_lt {t b : Int} {n : Nat} (h : 0 < b) (ht : t.natAbs < 2 ^ n) (hb : b.natAbs < 2 ^ n) : 0 < (lowF t b).2 ∧ (lowF t b).1.natAbs < 2 ^ n ∧ (lowF t b).2.natAbs < 2 ^ n := by
  obtain ⟨h1, h2⟩ := low_small t b h
  exact ⟨(low_fr t b h).1, Nat.lt_of_le_of_lt h1 ht, Nat.lt_of_le_of_lt h2 hb⟩
theorem add_lt {a b : Int} {n : Nat} (ha : a.natAbs < 2 ^ n) (hb : b.natAbs < 2 ^ n) : (a + b).natAbs < 2 ^ (n + 1) := by
  rw [Nat.pow_succ]
  omega
theorem sub_lt {a b : Int} {n : Nat} (ha : a.natAbs < 2 ^ n) (hb : b.natAbs < 2 ^ n) : (a - b).natAbs < 2 ^ (n + 1) := by
  rw [Nat.pow_succ]
  omega
theorem up_lt {a : Int} {n m : Nat} (ha : a.natAbs < 2 ^ n) (h : n ≤ m) : a.natAbs < 2 ^ m := Nat.lt_of_lt_of_le ha (Nat.pow_le_pow_right (by decide) h)
/-- the tops of the three -/
def plusT (x y : Int × Int) : Int := x.1 * y.2 + y.1 * x.2
def minusT (x y : Int × Int) : Int := x.1 * y.2 - y.1 * x.2
def timesT (x y : Int × Int) : Int := x.1 * y.1
def bots (x y : Int × Int) : Int := x.2 * y.2
def addF (x y : Int × Int) : Int × Int := lowF (plusT x y) (bots x y)
def sumF (l : List (Int × Int)) : Int × Int := l.foldl addF (0, 1)
/-- lowest of f and the bottoms' product -/
def spBin (f : Int × Int → Int × Int → Int) : Sp := fun vs H Q _ => ∃ (p q : Addr) (x y : Int × Int) (n : Nat), vs = [.ref p, .ref q] ∧ Fq H p x n ∧ Fq H q y n ∧ 0 < n ∧ n ≤ 4000 ∧
  ∀ (r : Addr) (H' : Hp), H r = none → Same H H' → H' r = some (.tup [.int (lowT (f x y) (bots x y)), .int (lowB (f x y) (bots x y))]) → Q (.ref r) H'
def spOver (C : Addr) : Sp := fun vs H Q E => ∃ (p q : Addr) (x y : Int × Int), vs = [.ref p, .ref q] ∧ Fq H p x 100 ∧ Fq H q y 100 ∧
  (y.1 ≠ 0 → ∀ (r : Addr) (H' : Hp), H r = none → Same H H' → H' r = some (.tup [.int (frT (x.1 * y.2) (x.2 * y.1)), .int (frB (x.1 * y.2) (x.2 * y.1))]) → Q (.ref r) H') ∧
  (y.1 = 0 → E (.ref C) none H)
def spUnder : Sp := fun vs H Q _ => ∃ (p q : Addr) (x y : Int × Int) (n : Nat), vs = [.ref p, .ref q] ∧ Fq H p x n ∧ Fq H q y n ∧ 0 < n ∧ n ≤ 4000 ∧ Q (.bl (decide (x.1 * y.2 < y.1 * x.2))) H
def frD (x : Int × Int) : D := .tup [.int x.1, .int x.2]
def smallF (n : Nat) (x : Int × Int) : Prop := 0 < x.2 ∧ x.1.natAbs < 2 ^ n ∧ x.2.natAbs < 2 ^ n
theorem Fq.of {H : Hp} {v : V} {x : Int × Int} {n : Nat} (h : Dt H v (frD x)) (s : smallF n x) : ∃ p, v = .ref p ∧ Fq H p x n := by
  cases h with
  | tup ha hall =>
    cases hall with
    | cons h1 hall =>
      cases hall with
      | cons h2 hall =>
        cases hall
        cases h1
        cases h2
        exact ⟨_, rfl, ha, s.1, s.2.1, s.2.2⟩
theorem Fq.dt {H : Hp} {p : Addr} {x : Int × Int} {n : Nat} (f : Fq H p x n) : Dt H (.ref p) (frD x) := .tup f.at_ (.cons (.int _) (.cons (.int _) .nil))
theorem addF_small {x y : Int × Int} {n m : Nat} (hx : smallF n x) (hy : smallF m y) : smallF (n + m + 1) (addF x y) :=
  low_lt (Int.mul_pos hx.1 hy.1) (add_lt (wide_lt hx.2.1 hy.2.2) (by rw [Nat.add_comm n m]; exact wide_lt hy.2.1 hx.2.2)) (up_lt (wide_lt hx.2.2 hy.2.2) (by omega))
theorem sum_small {l : List (Int × Int)} (h : ∀ x ∈ l, smallF 100 x) : ∀ k, smallF (1 + 101 * k) (sumF (l.take k))
  | 0 => (show smallF 1 (0, 1) from ⟨by decide, by decide, by decide⟩)
  | k + 1 => by
    have ih := sum_small h k
    rw [List.take_add_one]
    cases e : l[k]? with
    | none =>
      rw [Option.toList_none, List.append_nil]
      exact ⟨ih.1, up_lt ih.2.1 (by omega), up_lt ih.2.2 (by omega)⟩
    | some x =>
      rw [Option.toList_some]
      show smallF _ (List.foldl addF (0, 1) (l.take k ++ [x]))
      rw [List.foldl_append]
      have := addF_small ih (h x (List.mem_of_getElem? e))
      have e2 : 1 + 101 * k + 100 + 1 = 1 + 101 * (k + 1) := by omega
      rw [e2] at this
      exact this
def spSumOf : Sp := fun vs H Q _ => ∃ (l : Addr) (xs : List V) (ps : List (Int × Int)), vs = [.ref l] ∧ H l = some (.lst xs) ∧ DtAll H xs (ps.map frD) ∧ (∀ x ∈ ps, smallF 100 x) ∧ ps.length ≤ 30 ∧
  ∀ (r : Addr) (H' : Hp), H r = none → Same H H' → H' r = some (.tup [.int (sumF ps).1, .int (sumF ps).2]) → Q (.ref r) H'
section
variable {P : Program} {w : World} {K : PySem.W.Frag} {mg : Str → Option Value} {base : Heap}
end
end Dear

namespace Dear
open PySem PySem.Spec PyProof.Rows L2
theorem none_back {H H' : Hp} {c : Addr} (s : ∀ b o, H b = some o → H' b = some o) (h : H' c = none) : H c = none := by
  cases e : H c with
  | none => rfl
  | some o =>
    have := s _ _ e
    rw [h] at this
    cases this
/-! ### a tongue's signs as rows: what stands at each, its price and its last -/
inductive Rows (H : Hp) : List V → List D → List Nat → List (V × V) → Prop
  | nil : Rows H [] [] [] []
  | cons {a : Addr} {u l : V} {x : Int × Int} {ld : D} {c : Nat} {xs : List V} {ds : List D} {cs : List Nat} {us : List (V × V)} : H a = some (.tup [.str (sgn c), u, l]) → Dt H u (frD x) → PrOk x.1 x.2 → Dt H l ld → LastD ld →
      Rows H xs ds cs us → Rows H (.ref a :: xs) (.tup [.str (sgn c), frD x, ld] :: ds) (c :: cs) ((u, l) :: us)
theorem Rows.of {H : Hp} : ∀ {xs : List V} {ds : List D} {cs : List Nat}, DtAll H xs ds → SgAll ds cs → ∃ us, Rows H xs ds cs us
  | _, _, _, .nil, .nil => ⟨_, .nil⟩
  | _, _, _, .cons h hs, .cons g gs => by
    obtain ⟨us, r⟩ := Rows.of hs gs
    obtain ⟨⟨t, b, ld, rfl, hp, hl⟩, _⟩ := g
    cases h with
    | tup ha hall =>
      cases hall with
      | cons h1 hall =>
        cases hall with
        | cons h2 hall =>
          cases hall with
          | cons h3 hall =>
            cases hall
            cases h1
            exact ⟨_, Rows.cons (x := (t, b)) ha h2 hp h3 hl r⟩
theorem Rows.same {H H' : Hp} (s : Same H H') : ∀ {xs : List V} {ds : List D} {cs : List Nat} {us : List (V × V)}, Rows H xs ds cs us → Rows H' xs ds cs us
  | _, _, _, _, .nil => .nil
  | _, _, _, _, .cons a b c d e r => .cons (s _ _ a) (b.same s) c (d.same s) e (Rows.same s r)
theorem Rows.lens {H : Hp} : ∀ {xs : List V} {ds : List D} {cs : List Nat} {us : List (V × V)}, Rows H xs ds cs us → xs.length = cs.length ∧ us.length = cs.length
  | _, _, _, _, .nil => ⟨rfl, rfl⟩
  | _, _, _, _, .cons _ _ _ _ _ r => ⟨congrArg (· + 1) r.lens.1, congrArg (· + 1) r.lens.2⟩
theorem Rows.get {H : Hp} : ∀ {xs : List V} {ds : List D} {cs : List Nat} {us : List (V × V)} {i : Nat} {v : V}, Rows H xs ds cs us → xs[i]? = some v → ∃ (a : Addr) (c : Nat) (u : V × V), v = .ref a ∧ H a = some (.tup [.str (sgn c), u.1, u.2]) ∧ cs[i]? = some c ∧ us[i]? = some u
  | _, _, _, _, 0, _, .cons a _ _ _ _ _, h => by
    cases h
    exact ⟨_, _, _, rfl, a, rfl, rfl⟩
  | _, _, _, _, i + 1, _, .cons _ _ _ _ _ r, h => by
    obtain ⟨a, c, u, h1, h2, h3, h4⟩ := Rows.get r (by simpa using h)
    exact ⟨a, c, u, h1, h2, by simpa using h3, by simpa using h4⟩
/-- what stands with the letter c -/
def atC {α : Type} (z : α) : List Nat → List α → Nat → α
  | c :: cs, a :: l, d => if c = d then a else atC z cs l d
  | _, _, _ => z
def prD : D → Int × Int
  | .tup [_, .tup [.int t, .int b], _] => (t, b)
  | _ => (0, 1)
def laD : D → D
  | .tup [_, _, l] => l
  | _ => .non
/-- a letter's price, its last -/
def prC (ds : List D) (cs : List Nat) (c : Nat) : Int × Int := prD (atC .non cs ds c)
def laC (ds : List D) (cs : List Nat) (c : Nat) : D := laD (atC .non cs ds c)
theorem Rows.at {H : Hp} {z : V × V} : ∀ {xs : List V} {ds : List D} {cs : List Nat} {us : List (V × V)} {c : Nat}, Rows H xs ds cs us → c ∈ cs → Dt H (atC z cs us c).1 (frD (prC ds cs c)) ∧ PrOk (prC ds cs c).1 (prC ds cs c).2 ∧ Dt H (atC z cs us c).2 (laC ds cs c) ∧ LastD (laC ds cs c)
  | _, _, _, _, d, .cons (c := c) a b e f g r, h => by
    unfold prC laC atC
    by_cases e9 : c = d
    · rw [if_pos e9, if_pos e9]
      exact ⟨b, e, f, g⟩
    · rw [if_neg e9, if_neg e9]
      rcases List.mem_cons.mp h with h | h
      · exact absurd h.symm e9
      · exact Rows.at r h
def kvsOf (sel : V × V → V) (cs : List Nat) (us : List (V × V)) : List (Key × V) := List.zipWith (fun c u => (Sum.inr (sgn c), sel u)) cs us
theorem sgn_ne {c d : Nat} (h : c ≠ d) : (Sum.inr (sgn c) : Key) ≠ Sum.inr (sgn d) := fun e => by
  injection e with e
  exact h (by simpa [sgn] using e)
theorem val_kvs {sel : V × V → V} {z : V × V} : ∀ {cs : List Nat} {us : List (V × V)} {c : Nat}, us.length = cs.length → c ∈ cs → valV (kvsOf sel cs us) (Sum.inr (sgn c)) = some (sel (atC z cs us c))
  | d :: cs, u :: us, c, hl, h => by
    unfold kvsOf atC
    rw [List.zipWith_cons_cons]
    by_cases e : d = c
    · subst e
      rw [if_pos rfl]
      exact valV_pos rfl
    · rw [if_neg e]
      rcases List.mem_cons.mp h with h | h
      · exact absurd h.symm e
      · have := val_kvs (sel := sel) (z := z) (cs := cs) (us := us) (by simpa using hl) h
        unfold valV at this ⊢
        rw [List.find?_cons]
        have e2 : decide ((Sum.inr (sgn d) : Key) = Sum.inr (sgn c)) = false := decide_eq_false (sgn_ne e)
        simp only [e2]
        exact this
  | [], _, _, _, h => nomatch h
  | _ :: _, [], _, hl, _ => by simp at hl
theorem putK_new {kvs : List (Key × V)} {k : Key} {v : V} (h : ∀ kv ∈ kvs, kv.1 ≠ k) : putK kvs k v = kvs ++ [(k, v)] := by
  unfold putK
  rw [if_neg]
  rw [List.any_eq_true]
  rintro ⟨kv, hm, e⟩
  exact h kv hm (of_decide_eq_true e)
theorem merge_kvs {sel : V × V → V} : ∀ {cs : List Nat} {us : List (V × V)} {acc : List (Key × V)}, cs.Nodup → (∀ c ∈ cs, ∀ kv ∈ acc, kv.1 ≠ Sum.inr (sgn c)) → mergeK acc (kvsOf sel cs us) = acc ++ kvsOf sel cs us
  | [], _, acc, _, _ => by
    unfold kvsOf
    rw [List.zipWith_nil_left, List.append_nil]
    rfl
  | _ :: _, [], acc, _, _ => by
    unfold kvsOf
    rw [List.zipWith_nil_right, List.append_nil]
    rfl
  | c :: cs, u :: us, acc, nd, h => by
    unfold kvsOf
    rw [List.zipWith_cons_cons]
    show mergeK (putK acc (Sum.inr (sgn c)) (sel u)) (kvsOf sel cs us) = acc ++ (Sum.inr (sgn c), sel u) :: kvsOf sel cs us
    rw [putK_new (h c List.mem_cons_self)]
    have nd' := List.nodup_cons.mp nd
    rw [merge_kvs nd'.2]
    · rw [List.append_assoc]
      rfl
    · intro d hd kv hkv
      rcases List.mem_append.mp hkv with hkv | hkv
      · exact h d (List.mem_cons_of_mem _ hd) kv hkv
      · have : kv = (Sum.inr (sgn c), sel u) := by simpa using hkv
        subst this
        exact sgn_ne fun e => nd'.1 (e ▸ hd)
/-- a text of letters of cs -/
def Of (cs : List Nat) (z : Str) : Prop := ∀ c ∈ z.cps.toList, c ∈ cs
/-- the tongue at v, as the words' functions see it -/
structure TgR (H : Hp) (v : V) (d : D) (ds : List D) (cs : List Nat) (i : Int) : Prop where
  ex : ∃ (p a : Addr) (b c : V) (xs : List V) (us : List (V × V)), v = .ref p ∧ H p = some (.tup [.ref a, b, c, .int i]) ∧ H a = some (.lst xs) ∧ Rows H xs ds cs us
  dt : Dt H v d
  ok : Ok d
  look : lookOk d = true
  nd : cs.Nodup
  l6 : cs.length ≤ 6
theorem TgR.same {H H' : Hp} {v : V} {d : D} {ds : List D} {cs : List Nat} {i : Int} (h : TgR H v d ds cs i) (s : Same H H') : TgR H' v d ds cs i := by
  obtain ⟨p, a, b, c, xs, us, h1, h2, h3, h4⟩ := h.ex
  exact ⟨⟨p, a, b, c, xs, us, h1, s _ _ h2, s _ _ h3, h4.same s⟩, h.dt.same s, h.ok, h.look, h.nd, h.l6⟩
theorem PrOk.small {x : Int × Int} (h : PrOk x.1 x.2) : smallF 100 x := by
  obtain ⟨h1, h2, h3, h4, _⟩ := h
  exact ⟨h2, Nat.lt_of_le_of_lt (show x.1.natAbs ≤ 900000000 by omega) (by decide), Nat.lt_of_le_of_lt (show x.2.natAbs ≤ 900000000 by omega) (by decide)⟩
/-- dict([(sign, ..) for sign, price, last in tongue[0]]) -/
def spDictC (sel : V × V → V) : Sp := fun vs H Q _ => ∃ (p a : Addr) (b c e : V) (xs : List V) (ds : List D) (cs : List Nat) (us : List (V × V)), vs = [.ref p] ∧ H p = some (.tup [.ref a, b, c, e]) ∧ H a = some (.lst xs) ∧ Rows H xs ds cs us ∧ cs.Nodup ∧ cs.length ≤ 6 ∧
  ∀ (q : Addr) (H' : Hp), H q = none → Same H H' → H' q = some (.dK (kvsOf sel cs us)) → Q (.ref q) H'
/-- the list that the comprehension makes -/
def CompD (K : PySem.W.Frag) (sel : V × V → V) (H : Hp) (D : Addr) (cs : List Nat) (us : List (V × V)) (i : Nat) (H' : Hp) : Prop :=
  (∀ b o, H b = some o → H' b = some o) ∧ ∃ ps : List Addr, H' D = some (.lst (ps.map V.ref)) ∧ ps.length = i ∧ Paired (fun p kv => H' p = some (.tup [kV kv.1, kv.2]) ∧ p ≠ D) ps ((kvsOf sel cs us).take i)
theorem CompD.step {K : PySem.W.Frag} {sel : V × V → V} {H H' : Hp} {D : Addr} {cs : List Nat} {us : List (V × V)} {i : Nat} {c : Nat} {u : V × V} (hD : H D = none) (h : CompD K sel H D cs us i H') (hc : cs[i]? = some c) (hu : us[i]? = some u) (i6 : i < 6)
    {q : Addr} (hq : H' q = none) :
    ∃ acc, (upd H' q (.tup [.str (sgn c), sel u])) D = some (.lst acc) ∧ acc.length < sizeLine ∧ CompD K sel H D cs us (i + 1) (upd (upd H' q (.tup [.str (sgn c), sel u])) D (.lst (acc ++ [.ref q]))) := by
  obtain ⟨s, ps, h1, h2, h3⟩ := h
  have sq := Same.upd (o := .tup [.str (sgn c), sel u]) hq
  have nq : q ≠ D := fun e => by
    subst e
    rw [hq] at h1
    cases h1
  refine ⟨_, sq _ _ h1, small1000 (by rw [List.length_map]; omega), fun b o e => ?_, ps ++ [q], ?_, ?_, ?_⟩
  · rw [upd_ne (ne_of_none e hD)]
    exact sq _ _ (s _ _ e)
  · rw [upd_same, List.map_append]
    rfl
  · rw [List.length_append, h2]
    rfl
  · have e9 : (kvsOf sel cs us)[i]? = some (Sum.inr (sgn c), sel u) := by
      unfold kvsOf
      rw [List.getElem?_zipWith, hc, hu]
    rw [List.take_add_one, e9]
    refine (L2.Paired.mapP h3 fun p kv hp => ⟨?_, hp.2⟩).snoc ⟨?_, nq⟩
    · rw [upd_ne nq]
      exact upd_same
    · rw [upd_ne hp.2]
      exact sq _ _ hp.1
theorem CompD.start {K : PySem.W.Frag} {sel : V × V → V} {H : Hp} {D : Addr} {cs : List Nat} {us : List (V × V)} (hD : H D = none) : CompD K sel H D cs us 0 (upd H D (.lst [])) :=
  ⟨Same.upd hD, [], upd_same, rfl, .nil⟩
theorem CompD.fin {K : PySem.W.Frag} {sel : V × V → V} {H H' : Hp} {D : Addr} {cs : List Nat} {us : List (V × V)} {n : Nat} (h : CompD K sel H D cs us n H') (hn : n = cs.length) (nd : cs.Nodup) :
    ∃ (ps : List Addr), SqL K H' D (ps.map V.ref) ∧ Paired (fun p kv => SqT K H' p [kV kv.1, kv.2]) ps (kvsOf sel cs us) ∧ mergeK [] (kvsOf sel cs us) = kvsOf sel cs us := by
  obtain ⟨s, ps, h1, h2, h3⟩ := h
  have e : (kvsOf sel cs us).take n = kvsOf sel cs us := by
    refine List.take_of_length_le ?_
    unfold kvsOf
    rw [List.length_zipWith]
    omega
  rw [e] at h3
  exact ⟨ps, SqL.of h1, L2.Paired.mapP h3 fun p kv hp => SqT.of hp.1, merge_kvs (acc := []) nd (fun _ _ _ h => nomatch h)⟩
end Dear

namespace Dear
open PySem PySem.Spec PyProof.Rows L2
section
variable {P : Program} {w : World} {K : PySem.W.Frag} {mg : Str → Option Value} {base : Heap}
theorem o_is_price (T : Txt K mg) : OkF P w K mg base CX0 3 "is_price" ["thing"] spPrice := by
  have o_is_fraction := o_is_fraction (P := P) (w := w) (base := base) T
  refine T.f_is_price.ok c_is_price (fun vs H Q E h => ?_) (fun f cdv A outer s H vs Q E hr h => ?_)
  · obtain ⟨v, n, rfl, _⟩ := h
    rfl
  · obtain ⟨v, d, rfl, hI, ok, k⟩ := h
    refine ⟨_, (pss_one (ps_ret (pe_and (pe_c o_is_fraction hr (pa_cons (pv 0) pa_nil)) (pe_one (pe_cmpR op_gt (pe_ix (ix_tup_k K) (pv 0) pe_int (fun _ _ => rfl)) pe_int (nomark _)))))), ?_⟩
    refine ⟨_, rfl, v, d, rfl, hI, ok, fun H1 s1 => ⟨_, rfl, itb (fun e => ?_) fun e => ?_⟩⟩
    · obtain ⟨t, b, rfl, hb⟩ := fr_shape e
      cases hI with
      | tup ha hall =>
        cases hall with
        | cons h1 hr1 =>
          cases h1
          cases hr1 with
          | cons h2 h3 =>
          cases h2
          cases h3
          have e2 : isPrice (.tup [.int t, .int b]) = decide (0 < t) := by
            unfold isPrice
            rw [e, Bool.true_and]
            rfl
          rw [e2] at k
          exact ⟨_, rfl, _, _, _, _, rfl, rfl, SqT.of (s1 _ _ ha), rfl, _, _, rfl, rfl, k _ s1⟩
    · have e2 : isPrice d = false := by
        unfold isPrice
        rw [e, Bool.false_and]
      rw [e2] at k
      exact k _ s1
theorem o_is_letter (T : Txt K mg) : OkF P w K mg base CX0 1 "is_letter" ["thing"] spLetter := by
  refine T.f_is_letter.ok c_is_letter (fun vs H Q E h => ?_) (fun f cdv A outer s H vs Q E hr h => ?_)
  · obtain ⟨v, n, rfl, _⟩ := h
    rfl
  · obtain ⟨v, d, rfl, hI, ok, k⟩ := h
    refine ⟨_, (pss_one (ps_ret (pe_and (pe_callB (call_isi_k K) (by rfl) T.b_isinstance (by decide +kernel) (pa_cons (pv 0) (pa_cons (pe_bltn (v := .ty "str") (by rfl) T.b_str (by decide +kernel) rfl) pa_nil))) (pe_and (pe_cmpR op_eq (pe_callB call_len_str (by rfl) T.b_len PySem.boot_len (pa_cons (pv 0) pa_nil)) pe_int (nomark _)) (pe_one (pe_cmpR op_in_sign (pv 0) (pe_gs T.g_LETTERS) rfl)))))), ?_⟩
    refine ⟨_, rfl, _, _, _, _, _, rfl, .ty _, hI.ty, kit_ty (kd_str d), _, rfl, ?_⟩
    cases hI with
    | str z =>
      have hz : z.length ≤ sizeLine := Nat.le_trans ok.1 (by decide)
      refine iteT ⟨_, rfl, _, rfl, hz, rfl, _, rfl, itb (fun e => ?_) fun e => ?_⟩
      · have e1 : z.length = 1 := by
          have := of_decide_eq_true e
          injection this with this
          omega
        obtain ⟨c, rfl⟩ := str_one e1
        have e2 : isLetter (.str ⟨#[c]⟩) = decide (c ∈ letters.cps.toList) := by
          show ((⟨#[c]⟩ : Str).length == 1 && _) = _
          have : ((⟨#[c]⟩ : Str).length == 1) = true := rfl
          rw [this, Bool.true_and]
          simp
        rw [e2] at k
        exact ⟨_, rfl, _, _, rfl, rfl, k⟩
      · have e2 : isLetter (.str z) = false := by
          have n1 : ¬ z.length = 1 := fun q => by
            rw [q] at e
            cases e
          show (z.length == 1 && _) = _
          have : (z.length == 1) = false := by simpa using n1
          rw [this, Bool.false_and]
        rw [e2] at k
        exact k
    | _ => exact iteF k
theorem o_is_sign (T : Txt K mg) : OkF P w K mg base CX0 4 "is_sign" ["thing"] spSign := by
  have o_is_letter := o_is_letter (P := P) (w := w) (base := base) T
  have o_is_price := o_is_price (P := P) (w := w) (base := base) T
  refine T.f_is_sign.ok c_is_sign (fun vs H Q E h => ?_) (fun f cdv A outer s H vs Q E hr h => ?_)
  · obtain ⟨v, n, rfl, _⟩ := h
    rfl
  · obtain ⟨v, d, rfl, hI, ok, k⟩ := h
    refine ⟨_, (pss_cons (ps_if (PW.pt (pw_or (pt_not (pt_val (pe_callB (call_isi_k K) (by rfl) T.b_isinstance (by decide +kernel) (pa_cons (pv 0) (pa_cons (pe_bltn (v := .ty "tuple") (by rfl) T.b_tuple (by decide +kernel) rfl) pa_nil))))) (pw_or1 (pt_cmpR op_ne (pe_callB (call_len_seq_k K) (by rfl) T.b_len PySem.boot_len (pa_cons (pv 0) pa_nil)) pe_int (nomark _)))))
(pss_one (ps_ret pe_bl))
pss_nil)
(pss_cons (ps_asg (pv 0) (pg_tup_k K (n := 3) rfl (pgs_cons (pg_name (i := 1) c_is_sign.nd rfl (Or.inl rfl)) (pgs_cons (pg_name (i := 2) c_is_sign.nd rfl (Or.inl rfl)) (pgs_cons (pg_name (i := 3) c_is_sign.nd rfl (Or.inl rfl)) pgs_nil)))))
(pss_one (ps_ret (pe_and (pe_c o_is_letter hr (pa_cons (pv 1) pa_nil)) (pe_and (pe_c o_is_price hr (pa_cons (pv 2) pa_nil)) (pe_one (pe_or (pe_cmpR op_isN (pv 3) pe_non (nomark _)) (pe_one (pe_c o_is_price hr (pa_cons (pv 3) pa_nil))))))))))), ?_⟩
    refine ⟨_, rfl, _, _, _, _, _, rfl, .ty _, hI.ty, kit_ty (kd_tuple d), _, rfl, ?_⟩
    cases hI with
    | tup ha hall =>
      rename_i a xs ds
      refine iteF ⟨_, rfl, _, _, rfl, .inr (SqT.of ha), rfl, _, rfl, ?_⟩
      by_cases hl : xs.length = 3
      · have e2 : decide (V.int ((xs.length : Nat) : Int) = V.int 3) = true := by rw [hl]; decide
        rw [e2]
        refine iteF ?_
        match xs, ds, hall, hl, ok, k with
        | [x, y, z], _, .cons (d := d1) h1 (.cons (d := d2) h2 (.cons (d := d3) h3 .nil)), _, ok, k =>
          refine ⟨_, rfl, _, _, rfl, SqT.of ha, rfl, _, _, rfl, _, _, rfl, _, _, rfl, rfl, ?_⟩
          have k : ∀ H', Same H H' → Q (.bl (isLetter d1 && isPrice d2 && (isNon d3 || isPrice d3))) H' := k
          refine ⟨_, rfl, _, _, rfl, h1, ok.1, _, rfl, itb (fun e => ?_) fun e => ?_⟩
          · refine ⟨_, rfl, _, _, rfl, h2, ok.2.1, fun H1 s1 => ⟨_, rfl, itb (fun e' => ?_) fun e' => ?_⟩⟩
            · rw [e, e', Bool.true_and, Bool.true_and] at k
              refine ⟨_, rfl, rfl, _, rfl, ?_⟩
              cases h3 with
              | non => exact iteT (k _ s1)
              | tup ha3 hall3 =>
                refine iteF ⟨_, rfl, _, _, rfl, (Dt.tup ha3 hall3).same s1, ok.2.2.1, fun H2 s2 => ?_⟩
                exact k _ (s1.trans s2)
              | bl b => exact iteF ⟨_, rfl, _, _, rfl, .bl b, ok.2.2.1, fun H2 s2 => k _ (s1.trans s2)⟩
              | int b => exact iteF ⟨_, rfl, _, _, rfl, .int b, ok.2.2.1, fun H2 s2 => k _ (s1.trans s2)⟩
              | str b => exact iteF ⟨_, rfl, _, _, rfl, .str b, ok.2.2.1, fun H2 s2 => k _ (s1.trans s2)⟩
              | lst ha3 hall3 => exact iteF ⟨_, rfl, _, _, rfl, (Dt.lst ha3 hall3).same s1, ok.2.2.1, fun H2 s2 => k _ (s1.trans s2)⟩
              | dct ha3 => exact iteF ⟨_, rfl, _, _, rfl, (Dt.dct ha3).same s1, ok.2.2.1, fun H2 s2 => k _ (s1.trans s2)⟩
            · rw [e', Bool.and_false, Bool.false_and] at k
              exact k _ s1
          · rw [e, Bool.false_and, Bool.false_and] at k
            exact k _ (Same.refl _)
      · have e2 : decide (V.int ((xs.length : Nat) : Int) = V.int 3) = false := by
          rw [dec_int]
          simp only [beq_eq_false_iff_ne, ne_eq]
          omega
        rw [e2]
        refine iteT ?_
        have e3 : isSign (.tup ds) = false := by
          have := hall.length
          match ds, this with
          | [], _ => rfl
          | [_], _ => rfl
          | [_, _], _ => rfl
          | [_, _, _], z => exact absurd z hl
          | _ :: _ :: _ :: _ :: _, _ => rfl
        rw [e3] at k
        exact k _ (Same.refl _)
    | _ => exact iteT (k _ (Same.refl _))
theorem sign_shape {d : D} (h : isSign d = true) : ∃ (z : Str) (p l : D), d = .tup [.str z, p, l] := by
  match d, h with
  | .tup [s, p, l], h =>
    have h : (isLetter s && isPrice p && (isNon l || isPrice l)) = true := h
    simp only [Bool.and_eq_true] at h
    have h1 := h.1.1
    match s, h1 with
    | .str z, _ => exact ⟨z, p, l, rfl⟩
/-- the heads of signs, as they stand -/
theorem heads_get {H : Hp} {xs : List V} {ds : List D} (hall : DtAll H xs ds) (hs : ds.all isSign = true) {i : Nat} {x : V} (hx : xs[i]? = some x) : ∃ (a : Addr) (z : Str) (y1 y2 : V) (p l : D), x = .ref a ∧ H a = some (.tup [.str z, y1, y2]) ∧ ds[i]? = some (.tup [.str z, p, l]) := by
  obtain ⟨d, hd, h⟩ := hall.get hx
  obtain ⟨z, p, l, rfl⟩ := sign_shape (List.all_eq_true.mp hs d (List.mem_of_getElem? hd))
  cases h with
  | tup ha hr =>
    rename_i a ys
    match ys, hr with
    | [_, _, _], .cons (.str _) (.cons _ (.cons _ .nil)) => exact ⟨a, z, _, _, p, l, rfl, ha, hd⟩
theorem take_heads {ds : List D} {i : Nat} {z : Str} {p l : D} (h : ds[i]? = some (.tup [.str z, p, l])) : (ds.take (i + 1)).map headS = (ds.take i).map headS ++ [z] := by
  rw [List.take_succ, h, List.map_append]
  rfl
theorem o_are_signs (T : Txt K mg) : OkF P w K mg base CX0 5 "are_signs" ["thing"] spSigns := by
  have o_is_sign := o_is_sign (P := P) (w := w) (base := base) T
  refine T.f_are_signs.ok c_are_signs (fun vs H Q E h => ?_) (fun f cdv A outer s H vs Q E hr h => ?_)
  · obtain ⟨v, n, rfl, _⟩ := h
    rfl
  · obtain ⟨v, d, rfl, hI, ok, k⟩ := h
    refine ⟨_, (pss_cons (ps_if (PW.pt (pw_or (pt_not (pt_val (pe_callB (call_isi_k K) (by rfl) T.b_isinstance (by decide +kernel) (pa_cons (pv 0) (pa_cons (pe_bltn (v := .ty "list") (by rfl) T.b_list (by decide +kernel) rfl) pa_nil))))) (pw_or1 (pt_not (pt_chain op_le op_le (pe_gi T.g_FEWEST_SIGNS) (pe_callB (call_len_seq_k K) (by rfl) T.b_len PySem.boot_len (pa_cons (pv 0) pa_nil)) (pe_gi T.g_MOST_SIGNS))))))
(pss_one (ps_ret pe_bl))
pss_nil)
(pss_cons (ps_if (pt_not (pt_val (pe_callB (cr_all_k K rfl) (by rfl) T.b_all (by decide +kernel) (pa_cons (pe_lc (own := [("one", 1)]) (g := gName 1) (tt := tYes) (by rfl) c_are_signs.nd (pi_list_k K (pv 0)) (blkOk_by (own := [("one", 1)]) (N := n_are_signs) (sc := defScope s_are_signs) (by decide +kernel)) (fun _ _ _ _ _ => (pg_name (i := 1) c_are_signs.nd rfl (Or.inl rfl))) (fun _ _ _ _ _ => pts_nil) (fun _ _ _ _ _ => (pe_c o_is_sign hr (pa_cons (pv 1) pa_nil)))) pa_nil))))
(pss_one (ps_ret pe_bl))
pss_nil)
(pss_one (ps_ret (pe_cmpR op_eq (pe_lenSetS K rfl T.b_len T.b_set (pe_lc (own := [("one", 1)]) (g := gName 1) (tt := tYes) (by rfl) c_are_signs.nd (pi_list_k K (pv 0)) (blkOk_by (own := [("one", 1)]) (N := n_are_signs) (sc := defScope s_are_signs) (by decide +kernel)) (fun _ _ _ _ _ => (pg_name (i := 1) c_are_signs.nd rfl (Or.inl rfl))) (fun _ _ _ _ _ => pts_nil) (fun _ _ _ _ _ => (pe_ix (ix_tup_k K) (pv 1) pe_int (fun _ _ => rfl))))) (pe_callB (call_len_seq_k K) (by rfl) T.b_len PySem.boot_len (pa_cons (pv 0) pa_nil)) (nomark _)))))), ?_⟩
    refine ⟨_, rfl, _, _, _, _, _, rfl, .ty _, hI.ty, kit_ty (kd_list d), _, rfl, ?_⟩
    cases hI with
    | lst ha hall =>
      rename_i a xs ds
      have hl := hall.length
      have no : ¬ (2 ≤ ds.length ∧ ds.length ≤ 6) → areSigns (.lst ds) = false := fun z => by
        show (decide (2 ≤ ds.length ∧ ds.length ≤ 6) && _ && _) = _
        rw [decide_eq_false z, Bool.false_and, Bool.false_and]
      refine iteF ⟨_, rfl, _, _, rfl, .inl (SqL.of ha), _, _, rfl, rfl, _, rfl, itd (fun c1 => ?_) fun c1 => ?_⟩
      · refine ⟨_, _, rfl, rfl, _, rfl, itnd (fun c2 => ?_) fun c2 => ?_⟩
        · rw [no (by omega)] at k
          exact k _ (Same.refl _)
        · have lim : 2 ≤ ds.length ∧ ds.length ≤ 6 := by omega
          refine ⟨_, rfl, a, rfl, ⟨_, SqL.of ha⟩, fun Dd hD => lc_list (K := K) (a := a) (xs := xs) (fun i H' => Same H H' ∧ H' Dd = some (.lst (((ds.take i).map isSign).map V.bl))) ⟨Same.upd hD, upd_same⟩ (fun i H' _ e => SqL.of (e.1 _ _ ha)) ?_ ?_⟩
          · rintro i x H' hx ⟨s1, e1⟩
            obtain ⟨d1, hd1, h1⟩ := hall.get hx
            refine ⟨rfl, _, rfl, x, d1, rfl, h1.same s1, OkAll.mem ok (List.mem_of_getElem? hd1), fun H2 s2 => ⟨_, s2 _ _ e1, ?_, ?_, ?_⟩⟩
            · rw [List.length_map, List.length_map]
              refine small1000 (Nat.le_trans (List.length_take_le _ _) ?_)
              have := (List.getElem?_eq_some_iff.mp hd1).1
              omega
            · intro b o hb
              rw [upd_ne (ne_of_none hb hD)]
              exact s2 _ _ (s1 _ _ hb)
            · rw [upd_same, List.take_succ, hd1]
              simp
          · rintro H1 ⟨s1, e1⟩
            rw [hl, List.take_length] at e1
            refine ⟨Dd, ds.map isSign, rfl, SqL.of e1, _, rfl, ?_⟩
            have eall : (ds.map isSign).all id = ds.all isSign := by
              rw [List.all_map]
              rfl
            rw [eall]
            cases e2 : ds.all isSign with
            | false =>
              have e3 : areSigns (.lst ds) = false := by
                show (decide (2 ≤ ds.length ∧ ds.length ≤ 6) && ds.all isSign && _) = _
                rw [e2, Bool.and_false, Bool.false_and]
              rw [e3] at k
              exact iteT (k _ s1)
            | true =>
              refine iteF ?_
              refine ⟨_, rfl, a, rfl, ⟨_, SqL.of (s1 _ _ ha)⟩, fun D2 hD2 => lc_list (K := K) (a := a) (xs := xs) (fun i H' => Same H1 H' ∧ H' D2 = some (.lst (((ds.take i).map headS).map V.str))) ⟨Same.upd hD2, upd_same⟩ (fun i H' _ e => SqL.of (e.1 _ _ (s1 _ _ ha))) ?_ ?_⟩
              · rintro i x H' hx ⟨s2, e3⟩
                obtain ⟨q, z, y1, y2, p, l, rfl, hq, hd⟩ := heads_get hall e2 hx
                refine ⟨rfl, _, rfl, _, _, _, _, rfl, rfl, SqT.of (s2 _ _ (s1 _ _ hq)), rfl, _, e3, ?_, ?_, ?_⟩
                · rw [List.length_map, List.length_map]
                  refine small1000 (Nat.le_trans (List.length_take_le _ _) ?_)
                  have := (List.getElem?_eq_some_iff.mp hd).1
                  omega
                · intro b o hb
                  rw [upd_ne (ne_of_none hb hD2)]
                  exact s2 _ _ hb
                · rw [upd_same, take_heads hd, List.map_append]
                  rfl
              · rintro H2 ⟨s2, e3⟩
                rw [hl, List.take_length] at e3
                refine ⟨D2, ds.map headS, rfl, SqL.of e3, (by rw [List.length_map]; omega), _, rfl, _, _, rfl, .inl (SqL.of (s2 _ _ (s1 _ _ ha))), rfl, ?_⟩
                have e4 : areSigns (.lst ds) = decide (V.int (((dd (ds.map headS)).length : Nat) : Int) = V.int ((xs.length : Nat) : Int)) := by
                  show (decide (2 ≤ ds.length ∧ ds.length ≤ 6) && ds.all isSign && _) = _
                  rw [decide_eq_true lim, e2, Bool.true_and, Bool.true_and, dec_int, hl]
                  by_cases z : (dd (ds.map headS)).length = ds.length
                  · rw [z]
                    simp
                  · have z1 : ((dd (ds.map headS)).length == ds.length) = false := by simpa using z
                    have z2 : ((((dd (ds.map headS)).length : Nat) : Int) == ((ds.length : Nat) : Int)) = false := by
                      simp only [beq_eq_false_iff_ne, ne_eq]
                      omega
                    rw [z1, z2]
                rw [e4] at k
                exact k _ (s1.trans s2)
      · rw [no (by omega)] at k
        exact ⟨_, rfl, iteT (k _ (Same.refl _))⟩
    | _ => exact iteT (k _ (Same.refl _))
end
end Dear

namespace Dear
open PySem PySem.Spec PyProof.Rows L2
theorem cut_take (xs : List V) (i : Nat) : cutV xs none (some (i : Int)) = xs.take i := by
  unfold cutV
  have e0 : HT.sIx xs.length 0 none = 0 := rfl
  have e1 : HT.sIx xs.length xs.length (some (i : Int)) = min i xs.length := HT.sIx_nat _ _ _
  rw [e0, e1, List.drop_zero, Nat.sub_zero]
  rcases Nat.le_total i xs.length with h | h
  · rw [Nat.min_eq_left h]
  · rw [Nat.min_eq_right h, List.take_length, List.take_of_length_le h]
theorem DtAll.strs {H : Hp} : ∀ {xs : List V} {pre : List Str}, DtAll H xs (pre.map D.str) → xs = pre.map V.str
  | _, [], .nil => rfl
  | _, _ :: _, .cons (.str z) t => by
    rw [DtAll.strs t]
    rfl
theorem DtAll.take {H : Hp} : ∀ {xs : List V} {ds : List D} (n : Nat), DtAll H xs ds → DtAll H (xs.take n) (ds.take n)
  | _, _, 0, _ => .nil
  | _, _, _ + 1, .nil => .nil
  | _, _, n + 1, .cons a b => .cons a (DtAll.take n b)
theorem drop_get {α : Type} {l : List α} {i : Nat} {x : α} (h : l[i]? = some x) : l.drop i = x :: l.drop (i + 1) := by
  obtain ⟨h1, h2⟩ := List.getElem?_eq_some_iff.mp h
  rw [List.drop_eq_getElem_cons h1, h2]
theorem take_more {α : Type} {l : List α} {i : Nat} {x : α} (h : l[i]? = some x) : l.take (i + 1) = l.take i ++ [x] := by
  rw [List.take_succ, h]
  rfl
section
variable {P : Program} {w : World} {K : PySem.W.Frag} {mg : Str → Option Value} {base : Heap}
theorem o_are_unlike_texts (T : Txt K mg) : OkF P w K mg base CX0 1 "are_unlike_texts" ["thing", "size", "letters"] spUnlike := by
  refine T.f_are_unlike_texts.ok c_are_unlike_texts (fun vs H Q E h => ?_) (fun f cdv A outer s H vs Q E hr h => ?_)
  · obtain ⟨v, d, n, b, L, rfl, _⟩ := h
    rfl
  · obtain ⟨v, d, n, b, L, rfl, hI, ok, hb, k⟩ := h
    refine ⟨_, (pss_cons (ps_if (pt_not (pt_val (pe_callB (call_isi_k K) (by rfl) T.b_isinstance (by decide +kernel) (pa_cons (pv 0) (pa_cons (pe_bltn (v := .ty "list") (by rfl) T.b_list (by decide +kernel) rfl) pa_nil)))))
(pss_one (ps_ret pe_bl))
pss_nil)
(pss_cons (ps_for PassesOwn.never rfl (pi_enum (by rfl) T.b_enumerate (pa_cons (pv 0) pa_nil)) (pg_tup_k K (n := 2) rfl (pgs_cons (pg_name (i := 3) c_are_unlike_texts.nd rfl (Or.inl rfl)) (pgs_cons (pg_name (i := 4) c_are_unlike_texts.nd rfl (Or.inl rfl)) pgs_nil)))
(pss_cons (ps_if (PW.pt (pw_or (pt_not (pt_val (pe_callB (call_isi_k K) (by rfl) T.b_isinstance (by decide +kernel) (pa_cons (pv 4) (pa_cons (pe_bltn (v := .ty "str") (by rfl) T.b_str (by decide +kernel) rfl) pa_nil))))) (pw_or (pt_cmpR op_ne (pe_callB call_len_str (by rfl) T.b_len PySem.boot_len (pa_cons (pv 4) pa_nil)) (pv 1) (nomark _)) (pw_or1 (pt_cmpR (op_in_seq_k K) (pv 4) (pe_slice (sl_list_k K) (pv 0) po_none (po_some (pv 3))) rfl)))))
(pss_one (ps_ret pe_bl))
pss_nil)
(pss_one (ps_if (pt_not (pt_val (pe_callB (cr_all_k K rfl) (by rfl) T.b_all (by decide +kernel) (pa_cons (pe_lc (own := [("sign", 5)]) (g := gName 5) (tt := tYes) (by rfl) c_are_unlike_texts.nd (pi_str (pv 4)) (blkOk_by (own := [("sign", 5)]) (N := n_are_unlike_texts) (sc := defScope s_are_unlike_texts) (by decide +kernel)) (fun _ _ _ _ _ => (pg_name (i := 5) c_are_unlike_texts.nd rfl (Or.inl rfl))) (fun _ _ _ _ _ => pts_nil) (fun _ _ _ _ _ => (pe_cmpR (op_in_seq_k K) (pv 5) (pv 2) rfl))) pa_nil))))
(pss_one (ps_ret pe_bl))
pss_nil))))
(pss_one (ps_ret pe_bl)))), ?_⟩
    refine ⟨_, rfl, _, _, _, _, _, rfl, .ty _, hI.ty, kit_ty (kd_list d), _, rfl, ?_⟩
    cases hI with
    | lst ha hall =>
      rename_i a xs ds
      have hl := hall.length
      have k : ∀ H', Same H H' → Q (.bl (unl n L [] ds)) H' := k
      refine iteF ⟨_, rfl, a, xs, rfl, SqL.of ha, for_it walk_enum (fun i σ H' => Same H H' ∧ ∃ pre : List Str, ds.take i = pre.map D.str ∧ unl n L [] ds = unl n L pre (ds.drop i) ∧ ∃ v3 v4 v5, σ = [some (.ref a), some (.int n), some (.ref b), v3, v4, v5])
        ⟨Same.refl _, [], rfl, rfl, _, _, _, rfl⟩ (fun i σ H' _ h => SqL.of (h.1 _ _ ha)) ?_ ?_⟩
      · rintro i x σ H' H'' hi ⟨s1, pre, e1, e2, v3, v4, v5, rfl⟩ ⟨T1, x1, x2, rfl, hT1, rfl, e3, e4⟩
        cases e3
        obtain ⟨d1, hd1, h1⟩ := hall.get e4
        refine ⟨T1, _, rfl, SqT.of upd_same, rfl, _, _, rfl, _, _, rfl, rfl, ?_⟩
        have s2 : Same H (upd H' T1 (.tup [.int (i : Nat), x2])) := s1.trans (Same.upd hT1)
        generalize upd H' T1 (.tup [.int (i : Nat), x2]) = H2 at s2
        rw [drop_get hd1] at e2
        refine ⟨_, rfl, _, _, _, _, _, rfl, .ty _, (h1.same s2).ty, kit_ty (kd_str d1), _, rfl, ?_⟩
        cases h1 with
        | str z =>
          have okz : z.length ≤ 3000 ∧ Asc z := OkAll.mem ok (List.mem_of_getElem? hd1)
          have e2 : unl n L [] ds = (decide ((z.length : Int) = n) && !decide (z ∈ pre) && (z.cps.toList.all fun c => decide (sgn c ∈ L)) && unl n L (pre ++ [z]) (ds.drop (i + 1))) := e2
          refine iteF ⟨_, rfl, _, rfl, Nat.le_trans okz.1 (by decide), _, rfl, rfl, _, rfl, ?_⟩
          rw [dec_int]
          by_cases c1 : (z.length : Int) = n
          · rw [decide_eq_true c1, Bool.true_and] at e2
            have c1' : (!((z.length : Int) == n)) = false := by simp [c1]
            rw [c1']
            refine iteF ?_
            have ex : xs.take i = pre.map V.str := by
              have := hall.take i
              rw [e1] at this
              exact this.strs
            refine ⟨_, rfl, _, rfl, _, rfl, _, rfl, _, _, rfl, SqL.of (s2 _ _ ha), fun p3 hp3 => ?_⟩
            rw [cut_take, ex]
            have s3 := s2.trans (Same.upd (o := .lst (pre.map V.str)) hp3)
            refine ⟨p3, _, rfl, .inl (SqL.of upd_same), rfl, flat_str pre, _, rfl, ?_⟩
            rw [inV_strs]
            generalize upd H2 p3 (.lst (pre.map V.str)) = H3 at s3
            by_cases c2 : z ∈ pre
            · rw [decide_eq_true c2] at e2 ⊢
              refine iteT ?_
              rw [e2] at k
              exact k _ s3
            · rw [decide_eq_false c2, Bool.not_false, Bool.true_and] at e2
              rw [decide_eq_false c2]
              refine iteF ?_
              refine ⟨_, rfl, z, rfl, fun Dd hD => lc_it walk_str (fun j H' => Same H3 H' ∧ H' Dd = some (.lst (((z.cps.toList.take j).map fun c => decide (sgn c ∈ L)).map V.bl))) ⟨Same.upd hD, upd_same⟩ (fun _ _ _ _ => trivial) ?_ ?_⟩
              · rintro j y H4 H5 hj ⟨s4, e5⟩ ⟨rfl, c, hc, rfl⟩
                have hc' : z.cps.toList[j]? = some c := by rw [Array.getElem?_toList]; exact hc
                refine ⟨rfl, _, rfl, _, rfl, b, _, rfl, .inl (SqL.of (s4 _ _ (s3 _ _ hb))), rfl, flat_str L, _, e5, ?_, ?_, ?_⟩
                · rw [List.length_map, List.length_map]
                  refine Nat.lt_of_le_of_lt (List.length_take_le _ _) (Nat.lt_of_lt_of_le hj ?_)
                  exact Nat.le_trans (show z.cps.size ≤ 3000 from okz.1) (by decide)
                · intro a1 o ho
                  rw [upd_ne (ne_of_none ho hD)]
                  exact s4 _ _ ho
                · rw [upd_same, take_more hc', List.map_append, List.map_append]
                  have : inV (.str ⟨#[c]⟩) (L.map V.str) = decide (sgn c ∈ L) := inV_strs _ _
                  rw [if_neg Bool.false_ne_true, this]
                  rfl
              · rintro H4 ⟨s4, e5⟩
                have e6 : z.cps.toList.take z.cps.size = z.cps.toList := by rw [← Array.length_toList, List.take_length]
                rw [e6] at e5
                refine ⟨Dd, _, rfl, SqL.of e5, _, rfl, ?_⟩
                have e7 : ((z.cps.toList.map fun c => decide (sgn c ∈ L)).all id) = z.cps.toList.all fun c => decide (sgn c ∈ L) := by
                  rw [List.all_map]
                  rfl
                rw [e7]
                cases e8 : z.cps.toList.all fun c => decide (sgn c ∈ L) with
                | false =>
                  rw [e8, Bool.false_and] at e2
                  rw [e2] at k
                  exact iteT (k _ (s3.trans s4))
                | true =>
                  rw [e8, Bool.true_and] at e2
                  refine iteF ?_
                  refine ⟨s3.trans s4, pre ++ [z], ?_, e2, _, _, _, rfl⟩
                  rw [take_more hd1, e1, List.map_append]
                  rfl
          · rw [decide_eq_false c1, Bool.false_and, Bool.false_and, Bool.false_and] at e2
            have c1' : (!((z.length : Int) == n)) = true := by simp [c1]
            rw [c1']
            refine iteT ?_
            rw [e2] at k
            exact k _ s2
        | _ =>
          have e2 : unl n L [] ds = false := e2
          rw [e2] at k
          exact iteT (k _ s2)
      · rintro σ H' ⟨s1, pre, e1, e2, v3, v4, v5, rfl⟩
        rw [hl, List.drop_length] at e2
        have e2 : unl n L [] ds = true := e2
        rw [e2] at k
        exact k _ s1
    | _ => exact iteT (k _ (Same.refl _))
theorem look_shape {d : D} (h : lookOk d = true) : ∃ (ds : List D) (f p : D) (i : Int), d = .tup [.lst ds, f, p, .int i] ∧ areSigns (.lst ds) = true ∧ unlike 1 (ds.map headS) f = true ∧ unlike 2 (ds.map headS) p = true ∧ 1 ≤ i ∧ i ≤ 8 := by
  match d, h with
  | .tup [s, f, p, l], h =>
    have h : (areSigns s && unlike 1 (heads s) f && unlike 2 (heads s) p && isLong l) = true := h
    simp only [Bool.and_eq_true] at h
    obtain ⟨⟨⟨h1, h2⟩, h3⟩, h4⟩ := h
    match s, l, h1, h2, h3, h4 with
    | .lst ds, .int i, h1, h2, h3, h4 =>
      have h4 : decide (1 ≤ i ∧ i ≤ 8) = true := h4
      have h5 := of_decide_eq_true h4
      exact ⟨ds, f, p, i, rfl, h1, h2, h3, h5.1, h5.2⟩
theorem signs_all {ds : List D} (h : areSigns (.lst ds) = true) : 2 ≤ ds.length ∧ ds.length ≤ 6 ∧ ds.all isSign = true ∧ (ds.map headS).Nodup := by
  have h : (decide (2 ≤ ds.length ∧ ds.length ≤ 6) && ds.all isSign && (dd (ds.map headS)).length == ds.length) = true := h
  simp only [Bool.and_eq_true] at h
  obtain ⟨⟨h1, h2⟩, h3⟩ := h
  have h1 := of_decide_eq_true h1
  exact ⟨h1.1, h1.2, h2, dd_full (by rw [List.length_map]; simpa using h3)⟩
theorem o_look_at_tongue (T : Txt K mg) : OkF P w K mg base CX0 6 "look_at_tongue" ["thing"] spLook := by
  have o_are_signs := o_are_signs (P := P) (w := w) (base := base) T
  have o_are_unlike_texts := o_are_unlike_texts (P := P) (w := w) (base := base) T
  have o_is_whole := o_is_whole (P := P) (w := w) (base := base) T
  refine T.f_look_at_tongue.ok c_look_at_tongue (fun vs H Q E h => ?_) (fun f cdv A outer s H vs Q E hr h => ?_)
  · obtain ⟨v, d, rfl, _⟩ := h
    rfl
  · obtain ⟨v, d, rfl, hI, ok, lo, k⟩ := h
    obtain ⟨ds, f, p, i, rfl, g1, g2, g3, g4, g5⟩ := look_shape lo
    obtain ⟨l2, l6, sg, _⟩ := signs_all g1
    refine ⟨_, (pss_cons (ps_if (PW.pt (pw_or (pt_not (pt_val (pe_callB (call_isi_k K) (by rfl) T.b_isinstance (by decide +kernel) (pa_cons (pv 0) (pa_cons (pe_bltn (v := .ty "tuple") (by rfl) T.b_tuple (by decide +kernel) rfl) pa_nil))))) (pw_or1 (pt_cmpR op_ne (pe_callB (call_len_seq_k K) (by rfl) T.b_len PySem.boot_len (pa_cons (pv 0) pa_nil)) pe_int (nomark _)))))
(pss_one ps_never)
pss_nil)
(pss_cons (ps_asg (pv 0) (pg_tup_k K (n := 4) rfl (pgs_cons (pg_name (i := 1) c_look_at_tongue.nd rfl (Or.inl rfl)) (pgs_cons (pg_name (i := 2) c_look_at_tongue.nd rfl (Or.inl rfl)) (pgs_cons (pg_name (i := 3) c_look_at_tongue.nd rfl (Or.inl rfl)) (pgs_cons (pg_name (i := 4) c_look_at_tongue.nd rfl (Or.inl rfl)) pgs_nil))))))
(pss_cons (ps_if (pt_not (pt_val (pe_c o_are_signs hr (pa_cons (pv 1) pa_nil))))
(pss_one ps_never)
pss_nil)
(pss_cons (ps_setLc (i := 5) (own := [("one", 6)]) (g := gName 6) (tt := tYes) (by rfl) c_look_at_tongue.nd rfl rfl (sw_true rfl rfl rfl (by decide +kernel)) (pi_list_k K (pv 1)) (blkOk_by (own := [("one", 6)]) (N := n_look_at_tongue) (sc := defScope s_look_at_tongue) (by decide +kernel)) (fun _ _ _ _ _ => (pg_name (i := 6) c_look_at_tongue.nd rfl (Or.inl rfl))) (fun _ _ _ _ _ => pts_nil) (fun _ _ _ _ _ => (pe_ix (ix_tup_k K) (pv 6) pe_int (fun _ _ => rfl))))
(pss_cons (ps_if (pt_not (pt_val (pe_c o_are_unlike_texts hr (pa_cons (pv 2) (pa_cons pe_int (pa_cons (pv 5) pa_nil))))))
(pss_one ps_never)
pss_nil)
(pss_cons (ps_if (pt_not (pt_val (pe_c o_are_unlike_texts hr (pa_cons (pv 3) (pa_cons pe_int (pa_cons (pv 5) pa_nil))))))
(pss_one ps_never)
pss_nil)
(pss_one (ps_if (PW.pt (pw_or (pt_not (pt_val (pe_c o_is_whole hr (pa_cons (pv 4) pa_nil)))) (pw_or1 (pt_not (pt_chain op_le op_le pe_int (pv 4) (pe_gi T.g_LONGEST))))))
(pss_one ps_never)
pss_nil)))))))), ?_⟩
    refine ⟨_, rfl, _, _, _, _, _, rfl, .ty _, hI.ty, kit_ty (kd_tuple _), _, rfl, ?_⟩
    cases hI with
    | tup ha hall =>
      rename_i a xs
      match xs, hall, ok with
      | [x1, x2, x3, _], .cons h1 (.cons h2 (.cons h3 (.cons (.int _) .nil))), ok =>
        refine iteF ⟨_, rfl, _, _, rfl, .inr (SqT.of ha), rfl, _, rfl, iteF ?_⟩
        refine ⟨_, rfl, _, _, rfl, SqT.of ha, rfl, _, _, rfl, _, _, rfl, _, _, rfl, _, _, rfl, rfl, ?_⟩
        refine ⟨_, rfl, _, _, rfl, h1, ok.1, fun H1 s1 => ⟨_, rfl, ?_⟩⟩
        rw [g1]
        refine iteF ?_
        cases h1 with
        | lst hb hall1 =>
          rename_i b ys
          have hl := hall1.length
          refine ⟨_, rfl, b, rfl, ⟨_, SqL.of (s1 _ _ hb)⟩, fun D2 hD2 => lc_list (K := K) (a := b) (xs := ys) (fun i H' => Same H1 H' ∧ H' D2 = some (.lst (((ds.take i).map headS).map V.str))) ⟨Same.upd hD2, upd_same⟩ (fun i H' _ e => SqL.of (e.1 _ _ (s1 _ _ hb))) ?_ ?_⟩
          · rintro i x H' hx ⟨s2, e3⟩
            obtain ⟨q, z, y1, y2, p, l, rfl, hq, hd⟩ := heads_get hall1 sg hx
            refine ⟨rfl, _, rfl, _, _, _, _, rfl, rfl, SqT.of (s2 _ _ (s1 _ _ hq)), rfl, _, e3, ?_, ?_, ?_⟩
            · rw [List.length_map, List.length_map]
              refine small1000 (Nat.le_trans (List.length_take_le _ _) ?_)
              have := (List.getElem?_eq_some_iff.mp hd).1
              omega
            · intro b o hb
              rw [upd_ne (ne_of_none hb hD2)]
              exact s2 _ _ hb
            · rw [upd_same, take_heads hd, List.map_append]
              rfl
          · rintro H2 ⟨s2, e3⟩
            rw [hl, List.take_length] at e3
            have s12 := s1.trans s2
            refine ⟨_, rfl, _, rfl, _, _, 1, D2, _, rfl, h2.same s12, ok.2.1, e3, fun H3 s3 => ⟨_, rfl, ?_⟩⟩
            rw [g2]
            refine iteF ?_
            refine ⟨_, rfl, _, rfl, _, _, 2, D2, _, rfl, (h3.same s12).same s3, ok.2.2.1, s3 _ _ e3, fun H4 s4 => ⟨_, rfl, ?_⟩⟩
            rw [g3]
            refine iteF ?_
            refine ⟨_, rfl, _, _, rfl, .int i, _, rfl, iteF ?_⟩
            refine ⟨_, rfl, _, _, rfl, rfl, _, rfl, itd (fun c1 => ?_) fun c1 => absurd g4 c1⟩
            refine ⟨_, _, rfl, rfl, _, rfl, itnd (fun c2 => absurd g5 c2) fun c2 => ?_⟩
            exact k _ ((s12.trans s3).trans s4)
end
end Dear

namespace Dear
open PySem PySem.Spec PyProof.Rows L2
/-- a cell of the script, or 0 -/
def spCell (K : PySem.W.Frag) : Sp := fun vs H Q _ => ∃ (a : Addr) (ns : List Int) (k : Int), vs = [.ref a, .int k] ∧ SqL K H a (ns.map V.int) ∧ 0 ≤ k ∧ ∀ z : Int, Q (.int z) H
def spPriceD : Sp := fun vs H Q _ => ∃ l : Addr, vs = [.ref l] ∧ Src H l ∧ ∀ (p : Addr) (t b : Int) (H' : Hp), H' p = some (.tup [.int t, .int b]) → PrOk t b → But l H H' → Src H' l → Q (.ref p) H'
def spSignsD : Sp := fun vs H Q _ => ∃ (l : Addr) (m : Int), vs = [.ref l, .int m] ∧ Src H l ∧ 2 ≤ m ∧ m ≤ 6 ∧ ∀ (p : Addr) (xs : List V) (ds : List D) (cs : List Nat) (H' : Hp), H p = none → But l H H' → Src H' l → H' p = some (.lst xs) → DtAll H' xs ds → SgAll ds cs → cs.Nodup → (cs.length : Int) = m → Q (.ref p) H'
/-- the tongue as it stands: its tuple and its three lists, new ones and unlike -/
structure TgAt (H0 H : Hp) (v : V) (ds : List D) (cs fs : List Nat) (zs : List Str) (i : Int) : Prop where
  ex : ∃ (p a b c : Addr) (xs : List V), v = .ref p ∧ H p = some (.tup [.ref a, .ref b, .ref c, .int i]) ∧ H a = some (.lst xs) ∧ DtAll H xs ds ∧ H b = some (.lst ((fs.map sgn).map V.str)) ∧ H c = some (.lst (zs.map V.str)) ∧
    H0 p = none ∧ H0 a = none ∧ H0 b = none ∧ H0 c = none ∧ a ≠ b ∧ a ≠ c ∧ b ≠ c
theorem dt_strs {H : Hp} : ∀ zs : List Str, DtAll H (zs.map V.str) (zs.map D.str)
  | [] => .nil
  | z :: zs => .cons (.str z) (dt_strs zs)
theorem TgAt.dt {H0 H : Hp} {v : V} {d : D} {ds : List D} {cs fs : List Nat} {zs : List Str} {i : Int} (h : TgAt H0 H v ds cs fs zs i) (t : TgD d ds cs fs zs i) : Dt H v d := by
  obtain ⟨p, a, b, c, xs, rfl, h1, h2, h3, h4, h5, _⟩ := h.ex
  rw [t.eq]
  exact .tup h1 (.cons (.lst h2 h3) (.cons (.lst h4 (dt_strs _)) (.cons (.lst h5 (dt_strs _)) (.cons (.int i) .nil))))
def spTongueD (K : PySem.W.Frag) : Sp := fun vs H Q _ => ∃ (a : Addr) (ns : List Int) (k m : Int) (g : Addr) (lo : List Int), vs = [.ref a, .int k, .int m, .ref g] ∧ SqL K H a (ns.map V.int) ∧ 0 ≤ k ∧ 2 ≤ m ∧ m ≤ 6 ∧
  H g = some (.lst (lo.map V.int)) ∧ m ≤ (lo.length : Int) + 1 ∧ (∀ z ∈ lo, 1 ≤ z ∧ z ≤ 8) ∧
  ∀ (v : V) (d : D) (ds : List D) (cs fs : List Nat) (zs : List Str) (i : Int) (H' : Hp), Same H H' → TgD d ds cs fs zs i → TgAt H H' v ds cs fs zs i → (cs.length : Int) ≤ m → (∃ z, lo[cs.length - 2]? = some z ∧ i ≤ z) → Q v H'
section
variable {P : Program} {w : World} {K : PySem.W.Frag} {mg : Str → Option Value} {base : Heap}
theorem o__law_cell (T : Txt K mg) : OkF P w K mg base CX0 1 "_law_cell" ["_law_script", "_law_k"] (spCell K) := by
  refine T.f__law_cell.ok c__law_cell (fun vs H Q E h => ?_) (fun f cdv A outer s H vs Q E hr h => ?_)
  · obtain ⟨v, n, k, rfl, _⟩ := h
    rfl
  · obtain ⟨a, ns, z, rfl, hS, h0, k⟩ := h
    refine ⟨_, (pss_cons (ps_if (pt_cmpR op_lt (pv 1) (pe_callB (call_len_seq_k K) (by rfl) T.b_len PySem.boot_len (pa_cons (pv 0) pa_nil)) (nomark _))
(pss_one (ps_ret (pe_ix (ix_list_k K) (pv 0) (pv 1) (fun _ _ => rfl))))
pss_nil)
(pss_one (ps_ret pe_int))), ?_⟩
    refine ⟨_, rfl, _, rfl, _, _, rfl, .inl hS, _, _, rfl, rfl, _, rfl, itd (fun c => ?_) fun c => ?_⟩
    · obtain ⟨v, hv, hm, _⟩ := at_lt (xs := ns.map V.int) h0 c
      obtain ⟨y, _, rfl⟩ := List.mem_map.mp hm
      exact ⟨_, rfl, _, rfl, _, _, _, _, rfl, rfl, hS, hv, k y⟩
    · exact k 0
theorem wide5 {v : V} (h : v ∈ [V.int 5, V.int 5, V.int 9, V.int 9, V.int (9 * 10 ^ (8 : Int).toNat)]) : ∃ m : Int, v = .int m ∧ 0 < m ∧ m ≤ 900000000 := by
  simp only [List.mem_cons, List.not_mem_nil, or_false] at h
  rcases h with rfl | rfl | rfl | rfl | rfl
  · exact ⟨5, rfl, by decide, by decide⟩
  · exact ⟨5, rfl, by decide, by decide⟩
  · exact ⟨9, rfl, by decide, by decide⟩
  · exact ⟨9, rfl, by decide, by decide⟩
  · exact ⟨900000000, rfl, by decide, by decide⟩
theorem log900 {m : Int} (h0 : 0 < m) (h : m ≤ 900000000) : m.natAbs.log2 < 9000 := log_small (n := 40) (by decide) (Nat.lt_of_le_of_lt (show m.natAbs ≤ 900000000 by omega) (by decide)) (by decide)
theorem o__law_price (T : Txt K mg) : OkF P w K mg base CX0 2 "_law_price" ["_law_source_here"] spPriceD := by
  have o__law_draw := o__law_draw (P := P) (w := w) (base := base) T
  have o__law_lowest := o__law_lowest (P := P) (w := w) (base := base) T
  refine T.f__law_price.ok c__law_price (fun vs H Q E h => ?_) (fun f cdv A outer s H vs Q E hr h => ?_)
  · obtain ⟨v, rfl, _⟩ := h
    rfl
  · obtain ⟨l, rfl, S, k⟩ := h
    refine ⟨_, (pss_cons (ps_set (i := 1) c__law_price.nd rfl (Or.inl rfl) (pe_c o__law_draw hr (pa_cons (pv 0) (pa_cons pe_int pa_nil))))
(pss_cons (ps_set (i := 2) c__law_price.nd rfl (Or.inl rfl) (pe_ix (ix_list_k K) (pe_lst (pa_cons pe_int (pa_cons pe_int (pa_cons pe_int (pa_cons pe_int (pa_cons (pe_op op_mul pe_int (pe_op op_pow pe_int pe_int)) pa_nil)))))) (pv 1) (fun _ _ => rfl)))
(pss_cons (ps_set (i := 3) c__law_price.nd rfl (Or.inl rfl) (pe_op op_add pe_int (pe_c o__law_draw hr (pa_cons (pv 0) (pa_cons (pv 2) pa_nil)))))
(pss_cons (ps_if (pt_cmpR op_lt (pv 1) pe_int (nomark _))
(pss_one (ps_ret (pe_tup (pa_cons (pv 3) (pa_cons pe_int pa_nil)))))
pss_nil)
(pss_one (ps_ret (pe_c o__law_lowest hr (pa_cons (pv 3) (pa_cons (pe_op op_add pe_int (pe_c o__law_draw hr (pa_cons (pv 0) (pa_cons (pv 2) pa_nil)))) pa_nil))))))))), ?_⟩
    refine ⟨_, rfl, l, 5, rfl, S, by decide, by decide, fun r H1 r0 r1 B1 S1 => ?_⟩
    refine ⟨_, _, rfl, rfl, ⟨by decide, by decide, by decide⟩, _, _, rfl, rfl, .inl ⟨by decide, by decide⟩, (by show 5 ≤ sizeLine; decide), fun p hp => ⟨_, rfl, ?_⟩⟩
    obtain ⟨v, hv, hm, _⟩ := at_lt (xs := [V.int 5, V.int 5, V.int 9, V.int 9, V.int (9 * 10 ^ (8 : Int).toNat)]) r0 (by simpa using r1)
    refine ⟨_, _, _, _, rfl, rfl, SqL.of upd_same, hv, ?_⟩
    obtain ⟨m, rfl, m0, m1⟩ := wide5 hm
    have S2 := S1.same (Same.upd (o := .lst [V.int 5, V.int 5, V.int 9, V.int 9, V.int (9 * 10 ^ (8 : Int).toNat)]) hp)
    have B2 := B1.new (o := .lst [V.int 5, V.int 5, V.int 9, V.int 9, V.int (9 * 10 ^ (8 : Int).toNat)]) hp
    generalize upd H1 p (.lst [V.int 5, V.int 5, V.int 9, V.int 9, V.int (9 * 10 ^ (8 : Int).toNat)]) = H2 at S2 B2
    refine ⟨_, rfl, _, rfl, l, m, rfl, S2, m0, log900 m0 m1, fun t H3 t0 t1 B3 S3 => ⟨_, _, rfl, rfl, ?_⟩⟩
    refine ⟨_, rfl, _, _, rfl, rfl, _, rfl, itd (fun _ => ?_) fun _ => ?_⟩
    · refine ⟨_, rfl, (by show 2 ≤ sizeLine; decide), fun p2 hp2 => ?_⟩
      refine k p2 (1 + t) 1 _ upd_same ⟨by omega, by omega, by omega, by omega, ?_⟩ ((B2.trans B3).new hp2) (S3.same (Same.upd hp2))
      exact Nat.gcd_one_left _
    · refine ⟨_, rfl, _, rfl, _, rfl, l, m, rfl, S3, m0, log900 m0 m1, fun b H4 b0 b1 B4 S4 => ⟨_, _, rfl, rfl, 1 + t, 1 + b, rfl, by omega, log900 (by omega) (by omega), fun p2 H5 hp2 s5 h5 => ?_⟩⟩
      obtain ⟨g1, g2, g3, g4, g5⟩ := low_pos (t := 1 + t) (b := 1 + b) (by omega) (by omega)
      exact k p2 _ _ _ h5 ⟨g1, g2, by omega, by omega, g5⟩ (((B2.trans B3).trans B4).trans (.of s5)) (S4.same s5)
theorem step4 {v : V} (h : v ∈ [V.int 1, V.int 3, V.int 7, V.int 25]) : ∃ m : Int, v = .int m ∧ (m = 1 ∨ m = 3 ∨ m = 7 ∨ m = 25) := by
  simp only [List.mem_cons, List.not_mem_nil, or_false] at h
  rcases h with rfl | rfl | rfl | rfl
  · exact ⟨1, rfl, .inl rfl⟩
  · exact ⟨3, rfl, .inr (.inl rfl)⟩
  · exact ⟨7, rfl, .inr (.inr (.inl rfl))⟩
  · exact ⟨25, rfl, .inr (.inr (.inr rfl))⟩
/-- the list of signs so far -/
structure SoFar (l p : Addr) (H0 H : Hp) (xs : List V) (ds : List D) (cs : List Nat) : Prop where
  at_ : H p = some (.lst xs)
  dt : DtAll H xs ds
  sg : SgAll ds cs
  but : But l H0 H
  src : Src H l
theorem SoFar.move {l p : Addr} {H0 H H' : Hp} {xs : List V} {ds : List D} {cs : List Nat} (f : SoFar l p H0 H xs ds cs) (ne : p ≠ l) (b : But l H H') (s : Src H' l) : SoFar l p H0 H' xs ds cs :=
  ⟨b _ _ f.at_ ne, f.dt.tp (TP.src b f.src) f.sg.facts.2.2.1, f.sg, f.but.trans b, s⟩
theorem o__law_signs (T : Txt K mg) : OkF P w K mg base CX0 3 "_law_signs" ["_law_source_here", "_law_many"] spSignsD := by
  have o__law_draw := o__law_draw (P := P) (w := w) (base := base) T
  have o__law_price := o__law_price (P := P) (w := w) (base := base) T
  refine T.f__law_signs.ok c__law_signs (fun vs H Q E h => ?_) (fun f cdv A outer s H vs Q E hr h => ?_)
  · obtain ⟨v, m, rfl, _⟩ := h
    rfl
  · obtain ⟨l, m, rfl, S, m2, m6, k⟩ := h
    refine ⟨_, (pss_cons (ps_set (i := 2) c__law_signs.nd rfl (Or.inl rfl) pe_str)
(pss_cons (ps_set (i := 3) c__law_signs.nd rfl (Or.inl rfl) (pe_c o__law_draw hr (pa_cons (pv 0) (pa_cons pe_int pa_nil))))
(pss_cons (ps_set (i := 4) c__law_signs.nd rfl (Or.inl rfl) (pe_ix (ix_list_k K) (pe_lst (pa_cons pe_int (pa_cons pe_int (pa_cons pe_int (pa_cons pe_int pa_nil))))) (pe_c o__law_draw hr (pa_cons (pv 0) (pa_cons pe_int pa_nil))) (fun _ _ => rfl)))
(pss_cons (ps_set (i := 5) c__law_signs.nd rfl (Or.inl rfl) (pe_lst pa_nil))
(pss_cons (ps_for PassesOwn.never rfl (pi_range1 (by rfl) T.b_range (pa_cons (pv 1) pa_nil)) (pg_name (i := 6) c__law_signs.nd rfl (Or.inl rfl))
(pss_cons (ps_set (i := 7) c__law_signs.nd rfl (Or.inl rfl) (pe_c o__law_price hr (pa_cons (pv 0) pa_nil)))
(C8.pss_cut (ps_if (PW.pt (pw_and (pt_cmpR op_gt (pv 6) pe_int (nomark _)) (pw_and1 (pt_cmpR op_eq (pe_c o__law_draw hr (pa_cons (pv 0) (pa_cons pe_int pa_nil))) pe_int (nomark _)))))
(pss_one (ps_set (i := 7) c__law_signs.nd rfl (Or.inl rfl) (pe_ix (ix_tup_k K) (pe_ix (ix_list_k K) (pv 5) (pe_op op_sub (pv 6) pe_int) (fun _ _ => rfl)) pe_int (fun _ _ => rfl))))
pss_nil)
(pss_cons (ps_set (i := 8) c__law_signs.nd rfl (Or.inl rfl) (pv 7))
(pss_cons (ps_set (i := 9) c__law_signs.nd rfl (Or.inl rfl) (pe_c o__law_draw hr (pa_cons (pv 0) (pa_cons pe_int pa_nil))))
(C8.pss_cut (ps_if (pt_cmpR op_eq (pv 9) pe_int (nomark _))
(pss_one (ps_set (i := 8) c__law_signs.nd rfl (Or.inl rfl) pe_non))
(pss_one (ps_if (pt_cmpR op_gt (pv 9) pe_int (nomark _))
(pss_one (ps_set (i := 8) c__law_signs.nd rfl (Or.inl rfl) (pe_c o__law_price hr (pa_cons (pv 0) pa_nil))))
pss_nil)))
(pss_one (ps_expr (pe_bm PySem.F.plainAttrs_list PySem.F.slot_list_append PySem.F.type_list_append mt_append (pv 5) (pa_cons (pe_tup (pa_cons (pe_ix ix_str (pv 2) (pe_op op_mod (pe_op op_add (pv 3) (pe_op op_mul (pv 4) (pv 6))) pe_int) (fun _ _ => rfl)) (pa_cons (pv 7) (pa_cons (pv 8) pa_nil)))) pa_nil))))))))))
(pss_one (ps_ret (pv 5)))))))), ?_⟩
    refine ⟨_, rfl, l, 26, rfl, S, by decide, by decide, fun st H1 st0 st1 B1 S1 => ?_⟩
    refine ⟨(by show 4 ≤ sizeLine; decide), fun p0 hp0 => ⟨_, rfl, l, 4, rfl, S1.same (Same.upd hp0), by decide, by decide, fun r H2 r0 r1 B2 S2 => ?_⟩⟩
    obtain ⟨v, hv, hm, _⟩ := at_lt (xs := [V.int 1, V.int 3, V.int 7, V.int 25]) r0 (by simpa using r1)
    refine ⟨_, _, _, _, rfl, rfl, SqL.of (B2 p0 _ upd_same (S1.ne hp0)), hv, ?_⟩
    obtain ⟨sp, rfl, hsp⟩ := step4 hm
    have B12 : But l H H2 := B1.trans ((But.of (Same.upd hp0)).trans B2)
    refine ⟨(by show 0 ≤ sizeLine; decide), fun p hp => ?_⟩
    have npl : p ≠ l := S2.ne hp
    refine ⟨_, rfl, m, rfl, by omega, by omega, for_range (lo := 0) (n := m.toNat) (fun i σ H' => ∃ (xs : List V) (ds : List D), SoFar l p H2 H' xs ds ((List.range i).map (codeAt st sp)) ∧ xs.length = i ∧ ∃ v6 v7 v8 v9, σ = [some (.ref l), some (.int m), some (.str letters), some (.int st), some (.int sp), some (.ref p), v6, v7, v8, v9])
      ⟨[], [], ⟨upd_same, .nil, .nil, .of (Same.upd hp), S2.same (Same.upd hp)⟩, rfl, _, _, _, _, rfl⟩ ?_ ?_⟩
    · rintro i σ H3 hi ⟨xs, ds, F, xl, v6, v7, v8, v9, rfl⟩
      refine ⟨_, rfl, l, rfl, F.src, fun q t b H4 hq pr B4 S4 => ?_⟩
      have F4 := F.move npl B4 S4
      -- the price, perhaps the one ahead
      refine ⟨fun σ H' => ∃ (q : Addr) (t b : Int) (v8 v9 : Option V), H' q = some (.tup [.int t, .int b]) ∧ PrOk t b ∧ SoFar l p H2 H' xs ds ((List.range i).map (codeAt st sp)) ∧ σ = [some (.ref l), some (.int m), some (.str letters), some (.int st), some (.int sp), some (.ref p), some (.int (0 + (i : Int))), some (.ref q), v8, v9], ?_, ?_⟩
      · refine ⟨_, rfl, _, _, rfl, rfl, _, rfl, itd (fun c => ?_) fun c => ?_⟩
        · refine ⟨_, rfl, l, 4, rfl, S4, by decide, by decide, fun r5 H5 _ _ B5 S5 => ⟨rfl, _, rfl, itb (fun _ => ?_) fun _ => ?_⟩⟩
          · have F5 := F4.move npl B5 S5
            obtain ⟨x, hx, _, hx2⟩ := at_lt (xs := xs) (r := 0 + (i : Int) - 1) (by omega) (by omega)
            obtain ⟨d, hd, hD⟩ := F5.dt.get hx2
            obtain ⟨c', _, sg⟩ := F5.sg.get hd
            obtain ⟨⟨t', b', l', rfl, pr', _⟩, _⟩ := sg
            cases hD with
            | tup ha hr =>
              cases hr with
              | cons h1 hr =>
                cases hr with
                | cons h2 hr =>
                  cases hr with
                  | cons h3 hr =>
                    cases hr
                    cases h2 with
                    | tup hb hr2 =>
                      cases hr2 with
                      | cons g1 hr2 =>
                        cases hr2 with
                        | cons g2 hr2 =>
                          cases g1; cases g2; cases hr2
                          exact ⟨_, rfl, _, rfl, _, _, rfl, rfl, _, _, _, _, rfl, rfl, SqL.of F5.at_, hx, _, _, _, _, rfl, rfl, SqT.of ha, rfl, _, t', b', _, _, hb, pr', F5, rfl⟩
          · exact ⟨q, t, b, _, _, B5 _ _ hq (ne_of hq F4.src.choose_spec.choose_spec.1 (by intro z; cases z)), pr, F4.move npl B5 S5, rfl⟩
        · exact ⟨q, t, b, _, _, hq, pr, F4, rfl⟩
      · rintro σ H5 ⟨q, t, b, v8, v9, hq, pr, F5, rfl⟩
        refine ⟨_, rfl, ?_⟩
        refine ⟨_, rfl, l, 6, rfl, F5.src, by decide, by decide, fun r6 H6 _ _ B6 S6 => ?_⟩
        have F6 := F5.move npl B6 S6
        have hq6 := TP.src B6 F5.src _ _ hq
        refine ⟨fun σ H' => ∃ (la : V) (ld : D) (v9 : Option V), H' q = some (.tup [.int t, .int b]) ∧ Dt H' la ld ∧ LastD ld ∧ SoFar l p H2 H' xs ds ((List.range i).map (codeAt st sp)) ∧ σ = [some (.ref l), some (.int m), some (.str letters), some (.int st), some (.int sp), some (.ref p), some (.int (0 + (i : Int))), some (.ref q), some la, v9], ?_, ?_⟩
        · refine ⟨_, rfl, rfl, _, rfl, itb (fun _ => ?_) fun _ => ?_⟩
          · exact ⟨_, .non, _, hq6, .non, trivial, F6, rfl⟩
          · refine ⟨_, rfl, _, _, rfl, rfl, _, rfl, itd (fun _ => ?_) fun _ => ?_⟩
            · refine ⟨_, rfl, l, rfl, S6, fun q' t' b' H7 hq' pr' B7 S7 => ?_⟩
              exact ⟨_, .tup [.int t', .int b'], _, TP.src B7 S6 _ _ hq6, .tup hq' (.cons (.int _) (.cons (.int _) .nil)), pr', F6.move npl B7 S7, rfl⟩
            · exact ⟨_, .tup [.int t, .int b], _, hq6, .tup hq6 (.cons (.int _) (.cons (.int _) .nil)), pr, F6, rfl⟩
        · rintro σ H7 ⟨la, ld, v9, hq7, dl, ll, F7, rfl⟩
          have e26 := code_mem st sp i
          have ei : (0 + (i : Int)) = (i : Int) := by omega
          rw [ei]
          have j0 : 0 ≤ (st + sp * (i : Int)) % 26 := Int.emod_nonneg _ (by decide)
          have hat : atI letters.cps.toList ((st + sp * (i : Int)) % 26) = some (codeAt st sp i) := by
            have := atI_nat e26
            rw [Int.toNat_of_nonneg j0] at this
            exact this
          refine ⟨_, rfl, .inl ⟨rfl, _, SqL.of F7.at_⟩, _, rfl, _, rfl, _, rfl, _, rfl, _, _, rfl, rfl, .inl ⟨by omega, by omega⟩, _, _, rfl, rfl, _, _, rfl, rfl, (by show (0 : Int) < 26; decide), letters, _, _, rfl, rfl, by decide +kernel, hat, _, rfl, _, rfl, (by show 3 ≤ sizeLine; decide), fun p9 hp9 => ?_⟩
          have s9 := Same.upd (o := .tup [V.str (sgn (codeAt st sp i)), V.ref q, la]) hp9
          have np9 : p ≠ p9 := ne_of_none F7.at_ hp9
          have at9 := s9 _ _ F7.at_
          refine ⟨p, xs, _, rfl, rfl, at9, small1000 (by omega), ?_⟩
          have tp10 := TP.upd (o := .lst (xs ++ [V.ref p9])) at9
          have sgd : SgD (.tup [.str (sgn (codeAt st sp i)), .tup [.int t, .int b], ld]) (codeAt st sp i) := ⟨⟨t, b, ld, rfl, pr, ll⟩, List.mem_of_getElem? e26⟩
          have dnew : Dt (upd H7 p9 (.tup [V.str (sgn (codeAt st sp i)), V.ref q, la])) (.ref p9) (.tup [.str (sgn (codeAt st sp i)), .tup [.int t, .int b], ld]) :=
            .tup upd_same (.cons (.str _) (.cons (.tup (s9 _ _ hq7) (.cons (.int _) (.cons (.int _) .nil))) (.cons (dl.same s9) .nil)))
          refine ⟨xs ++ [V.ref p9], ds ++ [.tup [.str (sgn (codeAt st sp i)), .tup [.int t, .int b], ld]], ⟨upd_same, ?_, ?_, ?_, ?_⟩, by rw [List.length_append, xl]; rfl, _, _, _, _, rfl⟩
          · exact ((F7.dt.same s9).tp tp10 F7.sg.facts.2.2.1).app (.cons (dnew.tp tp10 sgd.facts.2.2.1) .nil)
          · rw [List.range_succ, List.map_append]
            exact F7.sg.app sgd
          · intro b' o hb hne
            rw [upd_ne (ne_of_none hb hp)]
            exact s9 _ _ (F7.but _ _ hb hne)
          · obtain ⟨n, z, e, r⟩ := F7.src.same s9
            exact ⟨n, z, by rw [upd_ne (Ne.symm npl)]; exact e, r⟩
    · rintro σ H3 ⟨xs, ds, F, xl, v6, v7, v8, v9, rfl⟩
      refine ⟨_, rfl, ?_⟩
      refine k p xs ds _ H3 ?_ ?_ F.src F.at_ F.dt F.sg (codes_nodup hsp (by omega)) ?_
      · cases e : H p with
        | none => rfl
        | some o =>
          have := B12 _ _ e npl
          rw [hp] at this
          cases this
      · exact B12.trans F.but
      · rw [List.length_map, List.length_range]
        omega
end
end Dear

namespace Dear
open PySem PySem.Spec PyProof.Rows L2
theorem TgAt.same {H0 H H' : Hp} {v : V} {ds : List D} {cs fs : List Nat} {zs : List Str} {i : Int} (h : TgAt H0 H v ds cs fs zs i) (s : Same H H') : TgAt H0 H' v ds cs fs zs i := by
  obtain ⟨p, a, b, c, xs, h1, h2, h3, h4, h5, h6, h7⟩ := h.ex
  exact ⟨p, a, b, c, xs, h1, s _ _ h2, s _ _ h3, h4.same s, s _ _ h5, s _ _ h6, h7⟩
theorem But.same {l : Addr} {H H' : Hp} (b : But l H H') (h : H l = none) : Same H H' := fun c o e => b c o e (ne_of_none e h)
theorem rare4 {v : V} (h : v ∈ [V.int 2, V.int 5, V.int 9, V.int 36]) : ∃ m : Int, v = .int m ∧ 0 < m ∧ m ≤ 36 := by
  simp only [List.mem_cons, List.not_mem_nil, or_false] at h
  rcases h with rfl | rfl | rfl | rfl
  · exact ⟨2, rfl, by decide, by decide⟩
  · exact ⟨5, rfl, by decide, by decide⟩
  · exact ⟨9, rfl, by decide, by decide⟩
  · exact ⟨36, rfl, by decide, by decide⟩
theorem get_sgn {cs : List Nat} {i : Nat} {x : V} (h : ((cs.map sgn).map V.str)[i]? = some x) : ∃ c, cs[i]? = some c ∧ x = .str (sgn c) := by
  rw [List.map_map, List.getElem?_map] at h
  cases e : cs[i]? with
  | none =>
    rw [e] at h
    cases h
  | some c =>
    rw [e] at h
    exact ⟨c, rfl, (Option.some.inj h).symm⟩
theorem nodup_rev {α : Type} {l : List α} (h : l.Nodup) : l.reverse.Nodup := by
  rw [List.nodup_iff_pairwise_ne] at *
  rw [List.pairwise_reverse]
  exact h.imp fun hne e => hne e.symm
theorem PairsOf.rev {bs cs : List Nat} {zs : List Str} (h : PairsOf bs cs zs) : PairsOf bs cs zs.reverse := ⟨nodup_rev h.nd, fun z hz => h.of z (List.mem_reverse.mp hz)⟩
theorem take_not_mem {cs : List Nat} (nd : cs.Nodup) {i : Nat} {c : Nat} (h : cs[i]? = some c) : ¬ c ∈ cs.take i := fun q => by
  obtain ⟨j, hj⟩ := List.getElem?_of_mem q
  have hjl : j < (cs.take i).length := (List.getElem?_eq_some_iff.mp hj).1
  rw [List.length_take] at hjl
  rw [List.getElem?_take_of_lt (by omega)] at hj
  have := nd_ix nd hj h
  omega
section
variable {P : Program} {w : World} {K : PySem.W.Frag} {mg : Str → Option Value} {base : Heap}
theorem o__law_tongue (T : Txt K mg) : OkF P w K mg base CX0 4 "_law_tongue" ["_law_script", "_law_base", "_law_most", "_law_longs"] (spTongueD K) := by
  have o__law_draw := o__law_draw (P := P) (w := w) (base := base) T
  have o__law_source := o__law_source (P := P) (w := w) (base := base) T
  have o__law_cell := o__law_cell (P := P) (w := w) (base := base) T
  have o__law_signs := o__law_signs (P := P) (w := w) (base := base) T
  refine T.f__law_tongue.ok c__law_tongue (fun vs H Q E h => ?_) (fun f cdv A outer s H vs Q E hr h => ?_)
  · obtain ⟨a, ns, k, m, g, lo, rfl, _⟩ := h
    rfl
  · obtain ⟨a, ns, b0, m, g, lo, rfl, hS, h0, m2, m6, hg, hlo, hlo8, k⟩ := h
    refine ⟨_, (pss_cons (ps_set (i := 4) c__law_tongue.nd rfl (Or.inr rfl) (pe_c o__law_source hr (pa_cons (pe_c o__law_cell hr (pa_cons (pv 0) (pa_cons (pv 1) pa_nil))) (pa_cons (pv 1) pa_nil))))
(pss_cons (ps_set (i := 5) c__law_tongue.nd rfl (Or.inl rfl) (pe_op op_add pe_int (pe_c o__law_draw hr (pa_cons (pv 4) (pa_cons (pe_op op_sub (pv 2) pe_int) pa_nil)))))
(pss_cons (ps_set (i := 6) c__law_tongue.nd rfl (Or.inl rfl) (pe_c o__law_signs hr (pa_cons (pv 4) (pa_cons (pv 5) pa_nil))))
(pss_cons (ps_setLc (i := 7) (own := [("_law_one", 12)]) (g := gName 12) (tt := tYes) (by rfl) c__law_tongue.nd rfl rfl (sw_true rfl rfl rfl (by decide +kernel)) (pi_list_k K (pv 6)) (blkOk_by (own := [("_law_one", 12)]) (N := n__law_tongue) (sc := defScope s__law_tongue) (by decide +kernel)) (fun _ _ _ _ _ => (pg_name (i := 12) c__law_tongue.nd rfl (Or.inl rfl))) (fun _ _ _ _ _ => pts_nil) (fun _ _ _ _ _ => (pe_ix (ix_tup_k K) (pv 12) pe_int (fun _ _ => rfl))))
(pss_cons (ps_set (i := 4) c__law_tongue.nd rfl (Or.inr rfl) (pe_c o__law_source hr (pa_cons (pe_c o__law_cell hr (pa_cons (pv 0) (pa_cons (pe_op op_add (pv 1) pe_int) pa_nil))) (pa_cons (pe_op op_add (pv 1) pe_int) pa_nil))))
(pss_cons (ps_set (i := 8) c__law_tongue.nd rfl (Or.inl rfl) (pe_op op_add pe_int (pe_c o__law_draw hr (pa_cons (pv 4) (pa_cons (pe_ix (ix_list_k K) (pv 3) (pe_op op_sub (pv 5) pe_int) (fun _ _ => rfl)) pa_nil)))))
(pss_cons (ps_set (i := 9) c__law_tongue.nd rfl (Or.inr rfl) (pe_ix (ix_list_k K) (pe_lst (pa_cons pe_int (pa_cons pe_int (pa_cons pe_int (pa_cons pe_int pa_nil))))) (pe_c o__law_draw hr (pa_cons (pv 4) (pa_cons pe_int pa_nil))) (fun _ _ => rfl)))
(pss_cons (ps_setLc (i := 10) (own := [("_law_sign", 13)]) (g := gName 13) (by rfl) c__law_tongue.nd rfl rfl (sw_true rfl rfl rfl (by decide +kernel)) (pi_list_k K (pv 7)) (blkOk_by (own := [("_law_sign", 13)]) (N := n__law_tongue) (sc := defScope s__law_tongue) (by decide +kernel)) (fun _ _ _ _ _ => (pg_name (i := 13) c__law_tongue.nd rfl (Or.inl rfl))) (fun _ _ _ _ _ => (pts_one (pt_cmpR op_eq (pe_c o__law_draw hr (pa_cons (pv 4) (pa_cons pe_int pa_nil))) pe_int (nomark _)))) (fun _ _ _ _ _ => (pv 13)))
(pss_cons (ps_set (i := 11) c__law_tongue.nd rfl (Or.inl rfl) (pe_lst pa_nil))
(pss_cons (ps_for PassesOwn.never rfl (pi_list_k K (pv 7)) (pg_name (i := 12) c__law_tongue.nd rfl (Or.inr rfl))
(pss_one (ps_expr (pe_bm PySem.F.plainAttrs_list PySem.F.slot_list_extend PySem.F.type_list_extend mt_extend (pv 11) (pa_cons (pe_lc (own := [("_law_other", 14)]) (g := gName 14) (by rfl) c__law_tongue.nd (pi_list_k K (pv 7)) (blkOk_by (own := [("_law_other", 14)]) (N := n__law_tongue) (sc := defScope s__law_tongue) (by decide +kernel)) (fun _ _ _ _ _ => (pg_name (i := 14) c__law_tongue.nd rfl (Or.inl rfl))) (fun _ _ _ _ _ => (pts_one (pt_cmpR op_eq (pe_c o__law_draw hr (pa_cons (pv 4) (pa_cons (pv 9) pa_nil))) pe_int (nomark _)))) (fun _ _ _ _ _ => (pe_op op_add_str (pv 12) (pv 14)))) pa_nil)))))
(C8.pss_cut (ps_if (pt_cmpR op_eq (pe_c o__law_draw hr (pa_cons (pv 4) (pa_cons pe_int pa_nil))) pe_int (nomark _))
(pss_cons (ps_set (i := 10) c__law_tongue.nd rfl (Or.inl rfl) (pe_revL_k K (pv 10)))
(pss_one (ps_set (i := 11) c__law_tongue.nd rfl (Or.inl rfl) (pe_revL_k K (pv 11)))))
pss_nil)
(pss_one (ps_ret (pe_tup (pa_cons (pv 6) (pa_cons (pv 10) (pa_cons (pv 11) (pa_cons (pv 8) pa_nil)))))))))))))))))), ?_⟩
    refine ⟨_, rfl, _, rfl, a, ns, b0, rfl, hS, h0, fun z => ⟨_, rfl, z, b0, rfl, fun l H1 hl s1 S1 => ?_⟩⟩
    refine ⟨_, rfl, _, rfl, _, _, rfl, rfl, l, m - 1, rfl, S1, by omega, log900 (by omega) (by omega), fun r H2 r0 r1 B2 S2 => ⟨_, _, rfl, rfl, ?_⟩⟩
    have B02 : But l H H2 := (But.of s1).trans B2
    refine ⟨_, rfl, _, rfl, l, 2 + r, rfl, S2, by omega, by omega, fun pS xs ds cs H3 hpS B3 S3 atS dt sg nd len => ?_⟩
    have s3 : Same H H3 := (B02.trans B3).same hl
    obtain ⟨f1, f2, f3, f4, f5, f6⟩ := sg.facts
    have xl := dt.length
    refine ⟨_, rfl, pS, rfl, ⟨_, SqL.of atS⟩, fun pN hN => lc_list (K := K) (a := pS) (xs := xs) (fun i H' => Same H3 H' ∧ H' pN = some (.lst (((ds.take i).map headS).map V.str))) ⟨Same.upd hN, upd_same⟩ (fun i H' _ e => SqL.of (e.1 _ _ atS)) ?_ ?_⟩
    · rintro i x H' hx ⟨s2, e3⟩
      obtain ⟨q, z, y1, y2, p, l, rfl, hq, hd⟩ := heads_get dt f1 hx
      refine ⟨rfl, _, rfl, _, _, _, _, rfl, rfl, SqT.of (s2 _ _ hq), rfl, _, e3, ?_, ?_, ?_⟩
      · rw [List.length_map, List.length_map]
        refine small1000 (Nat.le_trans (List.length_take_le _ _) ?_)
        have := (List.getElem?_eq_some_iff.mp hd).1
        omega
      · intro b o hb
        rw [upd_ne (ne_of_none hb hN)]
        exact s2 _ _ hb
      · rw [upd_same, take_heads hd, List.map_append]
        rfl
    rintro H4 ⟨s34, atN⟩
    rw [xl, List.take_length, f4] at atN
    have s4 := s3.trans s34
    refine ⟨_, rfl, _, rfl, _, _, rfl, rfl, a, ns, b0 + 1, rfl, s4.seq hS, by omega, fun z2 => ⟨_, rfl, _, _, rfl, rfl, z2, b0 + 1, rfl, fun l2 H5 hl2 s45 S5 => ?_⟩⟩
    have s5 := s4.trans s45
    obtain ⟨y, hy, hym, hy2⟩ := at_lt (xs := lo.map V.int) (r := 2 + r - 2) (by omega) (by rw [List.length_map]; omega)
    obtain ⟨y, ym, rfl⟩ := List.mem_map.mp hym
    obtain ⟨y1, y8⟩ := hlo8 y ym
    refine ⟨_, rfl, _, rfl, _, rfl, _, _, rfl, rfl, _, _, _, _, rfl, rfl, SqL.of (s5 _ _ hg), hy, l2, y, rfl, S5, by omega, log900 (by omega) (by omega), fun r6 H6 r60 r61 B6 S6 => ⟨_, _, rfl, rfl, ?_⟩⟩
    refine ⟨(by show 4 ≤ sizeLine; decide), fun p7 hp7 => ⟨_, rfl, l2, 4, rfl, S6.same (Same.upd hp7), by decide, by decide, fun r7 H7 r70 r71 B7 S7 => ?_⟩⟩
    obtain ⟨v, hv, hm, _⟩ := at_lt (xs := [V.int 2, V.int 5, V.int 9, V.int 36]) r70 (by simpa using r71)
    refine ⟨_, _, _, _, rfl, rfl, SqL.of (B7 p7 _ upd_same (S6.ne hp7)), hv, ?_⟩
    obtain ⟨ra, rfl, ra0, ra1⟩ := rare4 hm
    have B57 : But l2 H5 H7 := B6.trans ((But.of (Same.upd hp7)).trans B7)
    have nS : pS ≠ l2 := ne_of_none (s34 _ _ atS) hl2
    have nN : pN ≠ l2 := ne_of_none atN hl2
    have at5N : H5 pN = some (.lst ((cs.map sgn).map V.str)) := s45 _ _ atN
    have at5S : H5 pS = some (.lst xs) := s45 _ _ (s34 _ _ atS)
    -- firsts
    refine ⟨_, rfl, pN, rfl, ⟨_, SqL.of (B57 _ _ at5N nN)⟩, fun pF hF => lc_list (K := K) (a := pN) (xs := (cs.map sgn).map V.str) (fun i H' => But l2 H7 H' ∧ Src H' l2 ∧ ∃ fs : List Nat, fs.Sublist (cs.take i) ∧ H' pF = some (.lst ((fs.map sgn).map V.str)))
      ⟨.of (Same.upd hF), S7.same (Same.upd hF), [], List.Sublist.refl _, upd_same⟩ (fun i H' _ e => SqL.of (e.1 _ _ (B57 _ _ at5N nN) nN)) ?_ ?_⟩
    · rintro i x H' hx ⟨B8, S8, fs, fsub, atF⟩
      obtain ⟨c, hc, rfl⟩ := get_sgn hx
      have nF : pF ≠ l2 := S7.ne hF
      refine ⟨rfl, _, rfl, l2, 5, rfl, S8, by decide, by decide, fun r9 H9 _ _ B9 S9 => ⟨rfl, _, rfl, itb (fun _ => ?_) fun _ => ?_⟩⟩
      · have at9 := B9 _ _ atF nF
        refine ⟨_, rfl, _, at9, ?_, ?_, ?_, fs ++ [c], ?_, ?_⟩
        · rw [List.length_map, List.length_map]
          have := fsub.length_le
          rw [List.length_take] at this
          exact small1000 (by omega)
        · intro b o hb hne
          rw [upd_ne (ne_of_none hb hF)]
          exact B9 _ _ (B8 _ _ hb hne) hne
        · obtain ⟨n', z', e, rest⟩ := S9
          exact ⟨n', z', by rw [upd_ne nF.symm]; exact e, rest⟩
        · rw [take_more hc]
          exact List.Sublist.append fsub (List.Sublist.refl _)
        · rw [upd_same, List.map_append, List.map_append]
          rfl
      · refine ⟨B8.trans B9, S9, fs, ?_, B9 _ _ atF nF⟩
        rw [take_more hc]
        exact fsub.trans (List.sublist_append_left _ _)
    rintro H8 ⟨B8, S8, fs, fsub, atF⟩
    rw [List.length_map, List.length_map, List.take_length] at fsub
    have nF : pF ≠ l2 := S7.ne hF
    -- pairs
    refine ⟨(by show 0 ≤ sizeLine; decide), fun pP hP => ?_⟩
    have nP : pP ≠ l2 := S8.ne hP
    have at8N := B8 _ _ (B57 _ _ at5N nN) nN
    refine ⟨_, rfl, pN, rfl, ⟨_, SqL.of (Same.upd hP _ _ at8N)⟩, for_list (K := K) (a := pN) (xs := (cs.map sgn).map V.str) (fun i σ H' => But l2 H8 H' ∧ Src H' l2 ∧ (∃ zs : List Str, PairsOf (cs.take i) cs zs ∧ zs.length ≤ 6 * i ∧ H' pP = some (.lst (zs.map V.str))) ∧ ∃ v12 v13 v14, σ = [some (.ref a), some (.int b0), some (.int m), some (.ref g), some (.ref l2), some (.int (2 + r)), some (.ref pS), some (.ref pN), some (.int (1 + r6)), some (.int ra), some (.ref pF), some (.ref pP), v12, v13, v14])
      ⟨.of (Same.upd hP), S8.same (Same.upd hP), ⟨[], ⟨List.nodup_nil, fun _ h => nomatch h⟩, Nat.zero_le _, upd_same⟩, _, _, _, rfl⟩ (fun i σ H' _ e => SqL.of (e.1 _ _ at8N nN)) ?_ ?_⟩
    · rintro i x σ H9 hx ⟨B9, S9, ⟨zs, po, zl, atP⟩, v12, v13, v14, rfl⟩
      obtain ⟨c, hc, rfl⟩ := get_sgn hx
      have hi6 : i < 6 := by
        have := (List.getElem?_eq_some_iff.mp hc).1
        omega
      refine ⟨_, rfl, .inl ⟨rfl, _, SqL.of atP⟩, _, rfl, pN, rfl, ⟨_, SqL.of (B9 _ _ at8N nN)⟩, fun pW hW => lc_list (K := K) (a := pN) (xs := (cs.map sgn).map V.str) (fun j H' => But l2 H9 H' ∧ Src H' l2 ∧ ∃ gs : List Nat, gs.Sublist (cs.take j) ∧ H' pW = some (.lst ((gs.map fun b => sgn c ++ sgn b).map V.str)))
        ⟨.of (Same.upd hW), S9.same (Same.upd hW), [], List.Sublist.refl _, upd_same⟩ (fun i H' _ e => SqL.of (e.1 _ _ (B9 _ _ at8N nN) nN)) ?_ ?_⟩
      · rintro j y H' hy ⟨B10, S10, gs, gsub, atW⟩
        obtain ⟨e, he, rfl⟩ := get_sgn hy
        have nW : pW ≠ l2 := S9.ne hW
        refine ⟨rfl, _, rfl, _, rfl, l2, ra, rfl, S10, ra0, log900 ra0 (by omega), fun r11 H11 _ _ B11 S11 => ⟨rfl, _, rfl, itb (fun _ => ?_) fun _ => ?_⟩⟩
        · have at11 := B11 _ _ atW nW
          refine ⟨_, rfl, _, rfl, _, _, rfl, rfl, (by show 2 ≤ sizeLine; decide), _, at11, ?_, ?_, ?_, gs ++ [e], ?_, ?_⟩
          · rw [List.length_map, List.length_map]
            have := gsub.length_le
            rw [List.length_take] at this
            exact small1000 (by omega)
          · intro b o hb hne
            rw [upd_ne (ne_of_none hb hW)]
            exact B11 _ _ (B10 _ _ hb hne) hne
          · obtain ⟨n', z', e, rest⟩ := S11
            exact ⟨n', z', by rw [upd_ne nW.symm]; exact e, rest⟩
          · rw [take_more he]
            exact List.Sublist.append gsub (List.Sublist.refl _)
          · rw [upd_same, List.map_append, List.map_append]
            rfl
        · refine ⟨B10.trans B11, S11, gs, ?_, B11 _ _ atW nW⟩
          rw [take_more he]
          exact gsub.trans (List.sublist_append_left _ _)
      · rintro H10 ⟨B10, S10, gs, gsub, atW⟩
        rw [List.length_map, List.length_map, List.take_length] at gsub
        have gl := gsub.length_le
        have at10 := B10 _ _ atP nP
        refine ⟨pP, pW, _, _, rfl, rfl, at10, atW, ?_, ?_⟩
        · rw [List.length_map, List.length_map, List.length_map]
          exact sz_lit (by omega)
        · refine ⟨?_, ?_, ⟨zs ++ gs.map fun b => sgn c ++ sgn b, ?_, ?_, ?_⟩, _, _, _, rfl⟩
          · intro b o hb hne
            rw [upd_ne (ne_of_none hb hP)]
            exact B10 _ _ (B9 _ _ hb hne) hne
          · obtain ⟨n', z', e, rest⟩ := S10
            exact ⟨n', z', by rw [upd_ne nP.symm]; exact e, rest⟩
          · rw [take_more hc]
            refine po.more (take_not_mem nd hc) ?_ fun z hz => ?_
            · have gn : gs.Nodup := nd.sublist gsub
              rw [List.nodup_iff_pairwise_ne] at gn ⊢
              rw [List.pairwise_map]
              exact gn.imp fun hne e => hne (sgn2_inj e).2
            · obtain ⟨b, hb, rfl⟩ := List.mem_map.mp hz
              exact ⟨b, gsub.subset hb, rfl⟩
          · rw [List.length_append, List.length_map]
            omega
          · rw [upd_same, List.map_append]
    · rintro σ H9 ⟨B9, S9, ⟨zs, po, zl, atP⟩, v12, v13, v14, rfl⟩
      rw [List.length_map, List.length_map, List.take_length] at po
      have fl := fsub.length_le
      have B59 : But l2 H5 H9 := (B57.trans B8).trans B9
      refine ⟨fun σ H' => ∃ (pF pP : Addr) (fs : List Nat) (zs : List Str) (v12 v13 v14 : Option V), But l2 H5 H' ∧ H5 pF = none ∧ H5 pP = none ∧ pF ≠ pP ∧ H' pF = some (.lst ((fs.map sgn).map V.str)) ∧ H' pP = some (.lst (zs.map V.str)) ∧ fs.Nodup ∧ (∀ c ∈ fs, c ∈ cs) ∧ PairsOf cs cs zs ∧ σ = [some (.ref a), some (.int b0), some (.int m), some (.ref g), some (.ref l2), some (.int (2 + r)), some (.ref pS), some (.ref pN), some (.int (1 + r6)), some (.int ra), some (.ref pF), some (.ref pP), v12, v13, v14], ?_, ?_⟩
      · have free : ∀ {q : Addr} {H' : Hp}, But l2 H5 H' → Src H' l2 → H' q = none → H5 q = none := fun {q H'} B S e => by
          cases z : H5 q with
          | none => rfl
          | some o =>
            rw [B _ _ z (S.ne e)] at e
            cases e
        have f5F : H5 pF = none := free B57 S7 hF
        have f5P : H5 pP = none := free (B57.trans B8) S8 hP
        have nFP : pF ≠ pP := ne_of_none atF hP
        have at9F := B9 _ _ atF nF
        have fn : fs.Nodup := nd.sublist fsub
        refine ⟨_, rfl, l2, 2, rfl, S9, by decide, by decide, fun r10 H10 _ _ B10 S10 => ⟨rfl, _, rfl, itb (fun _ => ?_) fun _ => ?_⟩⟩
        · have at10F := B10 _ _ at9F nF
          have at10P := B10 _ _ atP nP
          refine ⟨_, rfl, _, _, rfl, SqL.of at10F, fun q1 hq1 => ⟨_, rfl, _, _, rfl, SqL.of (Same.upd hq1 _ _ at10P), fun q2 hq2 => ?_⟩⟩
          have B11 : But l2 H5 (upd H10 q1 (.lst ((fs.map sgn).map V.str).reverse)) := (B59.trans B10).new hq1
          have S11 := S10.same (Same.upd (o := .lst ((fs.map sgn).map V.str).reverse) hq1)
          have n12 : q1 ≠ q2 := fun e => by
            rw [← e, upd_same] at hq2
            cases hq2
          refine ⟨q1, q2, fs.reverse, zs.reverse, _, _, _, B11.new hq2, free (B59.trans B10) S10 hq1, free B11 S11 hq2, n12, ?_, ?_, nodup_rev fn, fun c hc => fsub.subset (List.mem_reverse.mp hc), po.rev, rfl⟩
          · rw [upd_ne n12, upd_same, List.map_reverse, List.map_reverse]
          · rw [upd_same, List.map_reverse]
        · exact ⟨pF, pP, fs, zs, _, _, _, B59.trans B10, f5F, f5P, nFP, B10 _ _ at9F nF, B10 _ _ atP nP, fn, fun c hc => fsub.subset hc, po, rfl⟩
      · rintro σ H' ⟨pF, pP, fs, zs, v12, v13, v14, B', fF, fP, nFP, aF, aP, fn, fo, po, rfl⟩
        refine ⟨_, rfl, _, rfl, _, rfl, _, rfl, (by show 4 ≤ sizeLine; decide), fun p hp => ?_⟩
        have s' := Same.upd (o := .tup [.ref pS, .ref pF, .ref pP, .int (1 + r6)]) hp
        have tgd : TgD (.tup [.lst ds, .lst ((fs.map sgn).map D.str), .lst (zs.map D.str), .int (1 + r6)]) ds cs fs zs (1 + r6) := ⟨rfl, sg, nd, by omega, by omega, fn, fo, po, by omega, by omega⟩
        have sH : Same H H' := (((But.of s5).trans B').same (s4.free hl2))
        refine k _ _ ds cs fs zs (1 + r6) _ (sH.trans s') tgd ⟨p, pS, pF, pP, xs, rfl, upd_same, s' _ _ (B' _ _ at5S nS), ?_, s' _ _ aF, s' _ _ aP, sH.free hp, ?_, s5.free fF, s5.free fP, ne_of_none at5S fF, ne_of_none at5S fP, nFP⟩ (by omega) ⟨y, ?_, by omega⟩
        · exact ((dt.same s34).same s45).tp ((TP.src B' S5).trans (TP.same s')) f3
        · exact (B02.same hl).free hpS
        · have e : cs.length - 2 = (2 + r - 2).toNat := by omega
          rw [e]
          rw [List.getElem?_map] at hy2
          cases z : lo[(2 + r - 2).toNat]? with
          | none =>
            rw [z] at hy2
            cases hy2
          | some y' =>
            rw [z] at hy2
            have := Option.some.inj hy2
            injection this with this
            rw [this]
end
end Dear

namespace Dear
open PySem PySem.Spec PyProof.Rows L2
/-- the way of a text of the tongue's letters -/
def wayC (ds : List D) (cs : List Nat) (l : List Nat) : Int × Int := sumF (l.map (prC ds cs))
def spWay : Sp := fun vs H Q _ => ∃ (v : V) (z : Str) (d : D) (ds : List D) (cs : List Nat) (i : Int), vs = [v, .str z] ∧ TgR H v d ds cs i ∧ Of cs z ∧ z.cps.toList.length ≤ 30 ∧
  ∀ (r : Addr) (H' : Hp), H r = none → Same H H' → H' r = some (.tup [.int (wayC ds cs z.cps.toList).1, .int (wayC ds cs z.cps.toList).2]) → Q (.ref r) H'
theorem way_small {H : Hp} {xs : List V} {ds : List D} {cs : List Nat} {us : List (V × V)} (R : Rows H xs ds cs us) {l : List Nat} (h : ∀ c ∈ l, c ∈ cs) : smallF (1 + 101 * l.length) (wayC ds cs l) := by
  have := sum_small (l := l.map (prC ds cs)) (fun x hx => by
    obtain ⟨c, hc, rfl⟩ := List.mem_map.mp hx
    exact (R.at (z := (V.non, V.non)) (h c hc)).2.1.small) l.length
  rw [List.take_of_length_le (by rw [List.length_map]; exact Nat.le_refl _)] at this
  exact this
/-- the price of a word whose last sign has a last -/
def spPriceW : Sp := fun vs H Q _ => ∃ (v : V) (l : List Nat) (e : Nat) (x : Int × Int) (d : D) (ds : List D) (cs : List Nat) (i : Int), vs = [v, .str (txt (l ++ [e]))] ∧ TgR H v d ds cs i ∧ (∀ c ∈ l ++ [e], c ∈ cs) ∧ l.length ≤ 29 ∧ laC ds cs e = frD x ∧
  ∀ (r : Addr) (H' : Hp), H r = none → Same H H' → H' r = some (.tup [.int (addF (wayC ds cs l) x).1, .int (addF (wayC ds cs l) x).2]) → Q (.ref r) H'
section
variable {P : Program} {w : World} {K : PySem.W.Frag} {mg : Str → Option Value} {base : Heap}
theorem o_prices_in (T : Txt K mg) : OkF P w K mg base CX0 1 "prices_in" ["tongue"] (spDictC Prod.fst) := by
  refine T.f_prices_in.ok c_prices_in (fun vs H Q E h => ?_) (fun f cdv A outer s H vs Q E hr h => ?_)
  · obtain ⟨p, a, b0, c0, e0, xs, ds, cs, us, rfl, _⟩ := h
    rfl
  · obtain ⟨p, a, b0, c0, e0, xs, ds, cs, us, rfl, h1, h2, R, nd, l6, k⟩ := h
    refine ⟨_, (pss_one (ps_ret (pe_callTy (call_dictP_k K rfl) (by rfl) T.b_dict (by decide +kernel) (pa_cons (pe_lc (own := [("sign", 1), ("price", 2), ("last", 3)]) (tt := tYes) (by rfl) c_prices_in.nd (pi_list_k K (pe_ix (ix_tup_k K) (pv 0) pe_int (fun _ _ => rfl))) (blkOk_by (own := [("sign", 1), ("price", 2), ("last", 3)]) (N := n_prices_in) (sc := defScope s_prices_in) (by decide +kernel)) (fun _ _ _ _ _ => (pg_tup_k K (n := 3) rfl (pgs_cons (pg_name (i := 1) c_prices_in.nd rfl (Or.inl rfl)) (pgs_cons (pg_name (i := 2) c_prices_in.nd rfl (Or.inl rfl)) (pgs_cons (pg_name (i := 3) c_prices_in.nd rfl (Or.inl rfl)) pgs_nil))))) (fun _ _ _ _ _ => pts_nil) (fun _ _ _ _ _ => (pe_tup (pa_cons (pv 1) (pa_cons (pv 2) pa_nil))))) pa_nil)))), ?_⟩
    refine ⟨_, rfl, _, _, _, _, rfl, rfl, SqT.of h1, rfl, a, rfl, ⟨_, SqL.of h2⟩, fun pW hW => lc_list (K := K) (a := a) (xs := xs) (CompD K Prod.fst H pW cs us) (CompD.start hW) (fun i H' _ e => SqL.of (e.1 _ _ h2)) ?_ ?_⟩
    · intro i x H' hx C
      obtain ⟨b, c, u, rfl, hb, hc, hu⟩ := R.get hx
      have i6 : i < 6 := by
        have := (List.getElem?_eq_some_iff.mp hc).1
        omega
      refine ⟨b, _, rfl, SqT.of (C.1 _ _ hb), rfl, _, _, rfl, _, _, rfl, _, _, rfl, rfl, rfl, ?_⟩
      refine ⟨_, rfl, _, rfl, (by show 2 ≤ sizeLine; decide), fun q hq => ?_⟩
      exact C.step hW hc hu i6 hq
    · intro H' C
      obtain ⟨ps, g1, g2, g3⟩ := C.fin R.lens.1 nd
      refine ⟨pW, ps, _, rfl, g1, g2, fun q hq => ?_⟩
      rw [g3]
      exact k q _ (none_back C.1 hq) (Same.trans C.1 (Same.upd hq)) upd_same
theorem o_lasts_in (T : Txt K mg) : OkF P w K mg base CX0 1 "lasts_in" ["tongue"] (spDictC Prod.snd) := by
  refine T.f_lasts_in.ok c_lasts_in (fun vs H Q E h => ?_) (fun f cdv A outer s H vs Q E hr h => ?_)
  · obtain ⟨p, a, b0, c0, e0, xs, ds, cs, us, rfl, _⟩ := h
    rfl
  · obtain ⟨p, a, b0, c0, e0, xs, ds, cs, us, rfl, h1, h2, R, nd, l6, k⟩ := h
    refine ⟨_, (pss_one (ps_ret (pe_callTy (call_dictP_k K rfl) (by rfl) T.b_dict (by decide +kernel) (pa_cons (pe_lc (own := [("sign", 1), ("price", 2), ("last", 3)]) (tt := tYes) (by rfl) c_lasts_in.nd (pi_list_k K (pe_ix (ix_tup_k K) (pv 0) pe_int (fun _ _ => rfl))) (blkOk_by (own := [("sign", 1), ("price", 2), ("last", 3)]) (N := n_lasts_in) (sc := defScope s_lasts_in) (by decide +kernel)) (fun _ _ _ _ _ => (pg_tup_k K (n := 3) rfl (pgs_cons (pg_name (i := 1) c_lasts_in.nd rfl (Or.inl rfl)) (pgs_cons (pg_name (i := 2) c_lasts_in.nd rfl (Or.inl rfl)) (pgs_cons (pg_name (i := 3) c_lasts_in.nd rfl (Or.inl rfl)) pgs_nil))))) (fun _ _ _ _ _ => pts_nil) (fun _ _ _ _ _ => (pe_tup (pa_cons (pv 1) (pa_cons (pv 3) pa_nil))))) pa_nil)))), ?_⟩
    refine ⟨_, rfl, _, _, _, _, rfl, rfl, SqT.of h1, rfl, a, rfl, ⟨_, SqL.of h2⟩, fun pW hW => lc_list (K := K) (a := a) (xs := xs) (CompD K Prod.snd H pW cs us) (CompD.start hW) (fun i H' _ e => SqL.of (e.1 _ _ h2)) ?_ ?_⟩
    · intro i x H' hx C
      obtain ⟨b, c, u, rfl, hb, hc, hu⟩ := R.get hx
      have i6 : i < 6 := by
        have := (List.getElem?_eq_some_iff.mp hc).1
        omega
      refine ⟨b, _, rfl, SqT.of (C.1 _ _ hb), rfl, _, _, rfl, _, _, rfl, _, _, rfl, rfl, rfl, ?_⟩
      refine ⟨_, rfl, _, rfl, (by show 2 ≤ sizeLine; decide), fun q hq => ?_⟩
      exact C.step hW hc hu i6 hq
    · intro H' C
      obtain ⟨ps, g1, g2, g3⟩ := C.fin R.lens.1 nd
      refine ⟨pW, ps, _, rfl, g1, g2, fun q hq => ?_⟩
      rw [g3]
      exact k q _ (none_back C.1 hq) (Same.trans C.1 (Same.upd hq)) upd_same
/-- [prices[sign] for sign in text] as far as the i-th sign -/
def CompW (H : Hp) (q : Addr) (ds : List D) (cs : List Nat) (l : List Nat) (i : Nat) (H' : Hp) : Prop :=
  (∀ b o, H b = some o → H' b = some o) ∧ ∃ xs : List V, H' q = some (.lst xs) ∧ DtAll H xs (((l.take i).map (prC ds cs)).map frD)
end
end Dear

namespace Dear
open PySem PySem.Spec PyProof.Rows L2
/-! ### what may come, what stands -/
def comesB (fs : List Nat) (zs : List Str) (ahead sign : Str) : Bool := if decide (V.str ahead = V.str "") = true then !inV (.str sign) ((fs.map sgn).map V.str) else !inV (.str (ahead ++ sign)) (zs.map V.str)
def walkB (cs fs : List Nat) (zs : List Str) : Str → List Nat → Bool
  | _, [] => true
  | a, c :: l => decide (c ∈ cs) && (comesB fs zs a (sgn c) && walkB cs fs zs (sgn c) l)
def standsB (cs fs : List Nat) (zs : List Str) (i : Int) : D → Bool
  | .str z => !decide (i < z.length) && walkB cs fs zs "" z.cps.toList
  | _ => false
theorem val_none {sel : V × V → V} : ∀ {cs : List Nat} {us : List (V × V)} {c : Nat}, c ∉ cs → valV (kvsOf sel cs us) (Sum.inr (sgn c)) = none
  | [], _, _, _ => by
    unfold kvsOf
    rw [List.zipWith_nil_left]
    rfl
  | _ :: _, [], _, _ => by
    unfold kvsOf
    rw [List.zipWith_nil_right]
    rfl
  | d :: cs, u :: us, c, h => by
    have h1 : d ≠ c := fun e => h (e ▸ List.mem_cons_self)
    have := val_none (sel := sel) (cs := cs) (us := us) (c := c) fun z => h (List.mem_cons_of_mem _ z)
    unfold kvsOf at this ⊢
    rw [List.zipWith_cons_cons]
    unfold valV at this ⊢
    rw [List.find?_cons]
    have e2 : decide ((Sum.inr (sgn d) : Key) = Sum.inr (sgn c)) = false := decide_eq_false (sgn_ne h1)
    simp only [e2]
    exact this
/-- a text is short -/
def Sz : D → Prop
  | .str z => z.length ≤ 3000
  | _ => True
def spComesB : Sp := fun vs H Q _ => ∃ (v : V) (z y : Str) (ds : List D) (cs fs : List Nat) (zs : List Str) (i : Int) (H0 : Hp), vs = [v, .str z, .str y] ∧ TgAt H0 H v ds cs fs zs i ∧ z.length + y.length ≤ 1000 ∧ Q (.bl (comesB fs zs z y)) H
/-- the last sign has a last -/
def endsB (ds : List D) (cs : List Nat) (l : List Nat) : Bool := match l.getLast? with
  | none => false
  | some e => !isNon (laC ds cs e)
def wordB (ds : List D) (cs fs : List Nat) (zs : List Str) (i : Int) : D → Bool
  | .str z => standsB cs fs zs i (.str z) && endsB ds cs z.cps.toList
  | _ => false
theorem walkB_of {cs fs : List Nat} {zs : List Str} : ∀ {l : List Nat} {a : Str}, walkB cs fs zs a l = true → ∀ c ∈ l, c ∈ cs
  | [], _, _ => fun _ h => nomatch h
  | d :: l, a, h => by
    have h : (decide (d ∈ cs) && (comesB fs zs a (sgn d) && walkB cs fs zs (sgn d) l)) = true := h
    rw [Bool.and_eq_true, Bool.and_eq_true] at h
    intro c hc
    rcases List.mem_cons.mp hc with rfl | hc
    · exact of_decide_eq_true h.1
    · exact walkB_of h.2.2 c hc
def spMayCome : Sp := fun vs H Q _ => ∃ (v : V) (z y : Str) (d : D) (ds : List D) (cs fs : List Nat) (zs : List Str) (i : Int) (H0 : Hp), vs = [v, .str z, .str y] ∧ TgD d ds cs fs zs i ∧ TgAt H0 H v ds cs fs zs i ∧ z.length + y.length ≤ 1000 ∧ ∀ H', Same H H' → Q (.bl (comesB fs zs z y)) H'
def spStands : Sp := fun vs H Q _ => ∃ (v x : V) (d dx : D) (ds : List D) (cs fs : List Nat) (zs : List Str) (i : Int) (H0 : Hp), vs = [v, x] ∧ TgD d ds cs fs zs i ∧ TgAt H0 H v ds cs fs zs i ∧ Dt H x dx ∧ Sz dx ∧
  ∀ H', Same H H' → Q (.bl (standsB cs fs zs i dx)) H'
theorem non_dec {H : Hp} {v : V} {d : D} (h : Dt H v d) : decide (v = V.non) = isNon d := by
  cases h with
  | non => exact decide_eq_true rfl
  | _ => exact decide_eq_false (by intro z; cases z)
def spIsWord : Sp := fun vs H Q _ => ∃ (v x : V) (d dx : D) (ds : List D) (cs fs : List Nat) (zs : List Str) (i : Int) (H0 : Hp), vs = [v, x] ∧ TgD d ds cs fs zs i ∧ TgAt H0 H v ds cs fs zs i ∧ Dt H x dx ∧ Sz dx ∧
  ∀ H', Same H H' → Q (.bl (wordB ds cs fs zs i dx)) H'
section
variable {P : Program} {w : World} {K : PySem.W.Frag} {mg : Str → Option Value} {base : Heap}
theorem o_comes (T : Txt K mg) : OkF P w K mg base CX0 1 "comes" ["tongue", "ahead", "sign"] spComesB := by
  refine T.f_comes.ok c_comes (fun vs H Q E h => ?_) (fun f cdv A outer s H vs Q E hr h => ?_)
  · obtain ⟨v, z, y, ds, cs, fs, zs, i, H0, rfl, _⟩ := h
    rfl
  · obtain ⟨v, z, y, ds, cs, fs, zs, i, H0, rfl, tg, hl, k⟩ := h
    obtain ⟨p, a, b, c, xs, rfl, h2, h3, h4, h5, h6, h7⟩ := tg.ex
    refine ⟨_, (pss_cons (ps_if (pt_cmpR op_eq (pv 1) pe_str (nomark _))
(pss_one (ps_ret (pe_cmpR (op_notIn_seq_k K) (pv 2) (pe_ix (ix_tup_k K) (pv 0) pe_int (fun _ _ => rfl)) rfl)))
pss_nil)
(pss_one (ps_ret (pe_cmpR (op_notIn_seq_k K) (pe_op op_add_str (pv 1) (pv 2)) (pe_ix (ix_tup_k K) (pv 0) pe_int (fun _ _ => rfl)) rfl)))), ?_⟩
    unfold comesB at k
    refine ⟨_, rfl, rfl, _, rfl, itb (fun e => ?_) fun e => ?_⟩
    · rw [if_pos e] at k
      exact ⟨_, rfl, _, rfl, _, _, _, _, rfl, rfl, SqT.of h2, rfl, _, _, rfl, .inl (SqL.of h5), rfl, flat_str _, k⟩
    · rw [if_neg (by rw [e]; decide)] at k
      exact ⟨_, rfl, _, rfl, _, _, rfl, rfl, sz_lit hl, _, rfl, _, _, _, _, rfl, rfl, SqT.of h2, rfl, _, _, rfl, .inl (SqL.of h6), rfl, flat_str _, k⟩
theorem o_stands (T : Txt K mg) : OkF P w K mg base CX0 2 "stands" ["tongue", "thing"] spStands := by
  have o_comes := o_comes (P := P) (w := w) (base := base) T
  have o_prices_in := o_prices_in (P := P) (w := w) (base := base) T
  refine T.f_stands.ok c_stands (fun vs H Q E h => ?_) (fun f cdv A outer s H vs Q E hr h => ?_)
  · obtain ⟨v, x, d, dx, ds, cs, fs, zs, i, H0, rfl, _⟩ := h
    rfl
  · obtain ⟨v, x, d, dx, ds, cs, fs, zs, i, H0, rfl, td, ta, hx, ok, k⟩ := h
    refine ⟨_, (pss_cons (ps_if (PW.pt (pw_or (pt_not (pt_val (pe_callB (call_isi_k K) (by rfl) T.b_isinstance (by decide +kernel) (pa_cons (pv 1) (pa_cons (pe_bltn (v := .ty "str") (by rfl) T.b_str (by decide +kernel) rfl) pa_nil))))) (pw_or1 (pt_cmpR op_gt (pe_callB call_len_str (by rfl) T.b_len PySem.boot_len (pa_cons (pv 1) pa_nil)) (pe_ix (ix_tup_k K) (pv 0) pe_int (fun _ _ => rfl)) (nomark _)))))
(pss_one (ps_ret pe_bl))
pss_nil)
(pss_cons (ps_set (i := 2) c_stands.nd rfl (Or.inl rfl) (pe_c o_prices_in hr (pa_cons (pv 0) pa_nil)))
(pss_cons (ps_set (i := 3) c_stands.nd rfl (Or.inl rfl) pe_str)
(pss_cons (ps_for PassesOwn.never rfl (pi_str (pv 1)) (pg_name (i := 4) c_stands.nd rfl (Or.inl rfl))
(pss_cons (ps_if (PW.pt (pw_or (pt_cmp (pc_dnotin (u1 hr.units) (pv 4) (pv 2))) (pw_or1 (pt_not (pt_val (pe_c o_comes hr (pa_cons (pv 0) (pa_cons (pv 3) (pa_cons (pv 4) pa_nil)))))))))
(pss_one (ps_ret pe_bl))
pss_nil)
(pss_one (ps_set (i := 3) c_stands.nd rfl (Or.inl rfl) (pv 4)))))
(pss_one (ps_ret pe_bl)))))), ?_⟩
    refine ⟨_, rfl, _, _, _, _, _, rfl, .ty _, hx.ty, kit_ty (kd_str dx), _, rfl, ?_⟩
    cases hx with
    | str z =>
      obtain ⟨p, a, b, c, xs, rfl, h2, h3, h4, h5, h6, h7⟩ := ta.ex
      obtain ⟨us, R⟩ := Rows.of h4 td.sg
      have hz : z.length ≤ sizeLine := Nat.le_trans ok (by decide)
      refine iteF ⟨_, rfl, _, rfl, hz, _, rfl, _, _, _, _, rfl, rfl, SqT.of h2, rfl, _, _, rfl, rfl, _, rfl, ?_⟩
      have k : ∀ H', Same H H' → Q (.bl (!decide (i < z.length) && walkB cs fs zs "" z.cps.toList)) H' := k
      refine itd (fun e => ?_) fun e => ?_
      · rw [decide_eq_true e] at k
        exact k H (Same.refl H)
      rw [decide_eq_false e] at k
      have k : ∀ H', Same H H' → Q (.bl (walkB cs fs zs "" z.cps.toList)) H' := k
      refine ⟨_, rfl, p, a, _, _, _, xs, ds, cs, us, rfl, h2, h3, R, td.nd, td.l6, fun q H1 hq s1 h1 => ?_⟩
      have ta1 := ta.same s1
      refine ⟨_, rfl, z, rfl, for_it (walk_str (z := z)) (fun j σ H' => H' = H1 ∧ ∃ (ahead : Str) (v4 : Option V), σ = [some (.ref p), some (.str z), some (.ref q), some (.str ahead), v4] ∧ ahead.length ≤ 1 ∧ walkB cs fs zs "" z.cps.toList = walkB cs fs zs ahead (z.cps.toList.drop j))
        ⟨rfl, "", _, rfl, (by decide), rfl⟩ (fun _ _ _ _ _ => trivial) ?_ ?_⟩
      · rintro j x σ H' H'' hj ⟨rfl, ahead, v4, rfl, al, hw⟩ ⟨rfl, c', hc, rfl⟩
        have hc' : z.cps.toList[j]? = some c' := by rw [Array.getElem?_toList]; exact hc
        have hd : z.cps.toList.drop j = c' :: z.cps.toList.drop (j + 1) := by
          obtain ⟨hlt, e1⟩ := List.getElem?_eq_some_iff.mp hc'
          rw [List.drop_eq_getElem_cons hlt, e1]
        rw [hd] at hw
        have hw : walkB cs fs zs "" z.cps.toList = (decide (c' ∈ cs) && (comesB fs zs ahead (sgn c') && walkB cs fs zs (sgn c') (z.cps.toList.drop (j + 1)))) := hw
        by_cases hm : c' ∈ cs
        · have hv := val_kvs (sel := Prod.fst) (z := (V.non, V.non)) R.lens.2 hm
          refine ⟨_, rfl, _, rfl, q, _, rfl, .inl ⟨_, Sum.inr (sgn c'), .of h1, rfl, rfl⟩, ?_⟩
          rw [hv]
          rw [decide_eq_true hm, Bool.true_and] at hw
          refine ⟨_, rfl, iteF ⟨_, rfl, _, rfl, _, rfl, _, _, _, ds, cs, fs, zs, i, _, rfl, ta1, (by show ahead.length + 1 ≤ 1000; omega), _, rfl, ?_⟩⟩
          refine itb (fun e => ?_) fun e => ?_
          · have e : (!comesB fs zs ahead (sgn c')) = true := e
            have e : comesB fs zs ahead (sgn c') = false := by simpa using e
            rw [e, Bool.false_and] at hw
            have fin := k _ s1
            rw [hw] at fin
            exact fin
          · have e : (!comesB fs zs ahead (sgn c')) = false := e
            have e : comesB fs zs ahead (sgn c') = true := by simpa using e
            rw [e, Bool.true_and] at hw
            exact ⟨_, rfl, rfl, sgn c', _, rfl, Nat.le_refl _, hw⟩
        · refine ⟨_, rfl, _, rfl, q, _, rfl, .inl ⟨_, Sum.inr (sgn c'), .of h1, rfl, rfl⟩, ?_⟩
          rw [val_none hm]
          rw [decide_eq_false hm, Bool.false_and] at hw
          have fin := k _ s1
          rw [hw] at fin
          exact ⟨_, rfl, iteT fin⟩
      · rintro σ H' ⟨rfl, ahead, v4, rfl, al, hw⟩
        rw [List.drop_of_length_le (by rw [Array.length_toList]; exact Nat.le_refl _)] at hw
        have hw : walkB cs fs zs "" z.cps.toList = true := hw
        have fin := k _ s1
        rw [hw] at fin
        exact fin
    | _ => exact iteT (k H (Same.refl H))
theorem o_may_stand (T : Txt K mg) : OkF P w K mg base CX0 7 "may_stand" ["tongue", "thing"] spStands := by
  have o_look_at_tongue := o_look_at_tongue (P := P) (w := w) (base := base) T
  have o_stands := o_stands (P := P) (w := w) (base := base) T
  refine T.f_may_stand.ok c_may_stand (fun vs H Q E h => ?_) (fun f cdv A outer s H vs Q E hr h => ?_)
  · obtain ⟨v, x, d, dx, ds, cs, fs, zs, i, H0, rfl, _⟩ := h
    rfl
  · obtain ⟨v, x, d, dx, ds, cs, fs, zs, i, H0, rfl, td, ta, hx, ok, k⟩ := h
    refine ⟨_, (pss_cons (ps_expr (pe_c o_look_at_tongue hr (pa_cons (pv 0) pa_nil)))
(pss_one (ps_ret (pe_c o_stands hr (pa_cons (pv 0) (pa_cons (pv 1) pa_nil)))))), ?_⟩
    refine ⟨_, rfl, v, d, rfl, ta.dt td, td.ok, td.look, fun H1 s1 => ?_⟩
    exact ⟨_, rfl, _, rfl, v, x, d, dx, ds, cs, fs, zs, i, H0, rfl, td, ta.same s1, hx.same s1, ok, fun H2 s2 => k _ (s1.trans s2)⟩
theorem o_may_come (T : Txt K mg) : OkF P w K mg base CX0 7 "may_come" ["tongue", "ahead", "sign"] spMayCome := by
  have o_look_at_tongue := o_look_at_tongue (P := P) (w := w) (base := base) T
  have o_comes := o_comes (P := P) (w := w) (base := base) T
  refine T.f_may_come.ok c_may_come (fun vs H Q E h => ?_) (fun f cdv A outer s H vs Q E hr h => ?_)
  · obtain ⟨v, z, y, d, ds, cs, fs, zs, i, H0, rfl, _⟩ := h
    rfl
  · obtain ⟨v, z, y, d, ds, cs, fs, zs, i, H0, rfl, td, ta, hl, k⟩ := h
    refine ⟨_, (pss_cons (ps_expr (pe_c o_look_at_tongue hr (pa_cons (pv 0) pa_nil)))
(pss_one (ps_ret (pe_c o_comes hr (pa_cons (pv 0) (pa_cons (pv 1) (pa_cons (pv 2) pa_nil))))))), ?_⟩
    refine ⟨_, rfl, v, d, rfl, ta.dt td, td.ok, td.look, fun H1 s1 => ?_⟩
    exact ⟨_, rfl, _, rfl, _, rfl, v, z, y, ds, cs, fs, zs, i, H0, rfl, ta.same s1, hl, k _ s1⟩
theorem o_is_word (T : Txt K mg) : OkF P w K mg base CX0 7 "is_word" ["tongue", "thing"] spIsWord := by
  have o_look_at_tongue := o_look_at_tongue (P := P) (w := w) (base := base) T
  have o_stands := o_stands (P := P) (w := w) (base := base) T
  have o_lasts_in := o_lasts_in (P := P) (w := w) (base := base) T
  refine T.f_is_word.ok c_is_word (fun vs H Q E h => ?_) (fun f cdv A outer s H vs Q E hr h => ?_)
  · obtain ⟨v, x, d, dx, ds, cs, fs, zs, i, H0, rfl, _⟩ := h
    rfl
  · obtain ⟨v, x, d, dx, ds, cs, fs, zs, i, H0, rfl, td, ta, hx, ok, k⟩ := h
    refine ⟨_, (pss_cons (ps_expr (pe_c o_look_at_tongue hr (pa_cons (pv 0) pa_nil)))
(pss_cons (ps_if (PW.pt (pw_or (pt_not (pt_val (pe_c o_stands hr (pa_cons (pv 0) (pa_cons (pv 1) pa_nil))))) (pw_or1 (pt_cmpR op_eq (pv 1) pe_str (nomark _)))))
(pss_one (ps_ret pe_bl))
pss_nil)
(pss_one (ps_ret (pe_cmpR op_notN (pe_dget (u1 hr.units) (pe_c o_lasts_in hr (pa_cons (pv 0) pa_nil)) (pe_ix ix_str (pv 1) (pe_un un_neg pe_int) (fun _ _ => rfl)) (fun _ _ => rfl)) pe_non (nomark _)))))), ?_⟩
    refine ⟨_, rfl, v, d, rfl, ta.dt td, td.ok, td.look, fun H1 s1 => ?_⟩
    refine ⟨_, rfl, _, rfl, v, x, d, dx, ds, cs, fs, zs, i, H0, rfl, td, ta.same s1, hx.same s1, ok, fun H2 s2 => ⟨_, rfl, ?_⟩⟩
    have sH := s1.trans s2
    have no : wordB ds cs fs zs i dx = false → Q (.bl false) H2 := fun e => by
      have fin := k H2 sH
      rw [e] at fin
      exact fin
    cases hb : standsB cs fs zs i dx with
    | false =>
      refine iteT (no ?_)
      cases dx with
      | str z =>
        show (standsB cs fs zs i (.str z) && _) = false
        rw [hb, Bool.false_and]
      | _ => rfl
    | true =>
      refine iteF ?_
      cases hx with
      | str z =>
        have hb2 : (!decide (i < z.length) && walkB cs fs zs "" z.cps.toList) = true := hb
        rw [Bool.and_eq_true] at hb2
        have hall := walkB_of hb2.2
        have hz : z.length ≤ sizeLine := Nat.le_trans ok (by decide)
        have k2 : ∀ H', Same H H' → Q (.bl (standsB cs fs zs i (.str z) && endsB ds cs z.cps.toList)) H' := k
        clear k no
        rw [hb, Bool.true_and] at k2
        generalize hl : z.cps.toList = l at hall k2
        have ez : z = txt l := by rw [← hl]; exact txt_of z
        subst ez
        refine ⟨_, rfl, rfl, _, rfl, ?_⟩
        rcases List.eq_nil_or_concat l with e0 | ⟨l', e, e0⟩
        · subst e0
          exact iteT (k2 H2 sH)
        have e0 : l = l' ++ [e] := by simpa using e0
        subst e0
        have e9 : decide (V.str (txt (l' ++ [e])) = V.str "") = false := decide_eq_false fun z => by
          injection z with z
          have z := congrArg Str.length z
          rw [txt_length, List.length_append] at z
          have z : l'.length + 1 = 0 := z
          omega
        rw [e9]
        refine iteF ?_
        have ta2 := ta.same sH
        obtain ⟨p, a, b, c, xs, rfl, h2, h3, h4, h5, h6, h7⟩ := ta2.ex
        obtain ⟨us, R⟩ := Rows.of h4 td.sg
        have hm : e ∈ cs := hall e (List.mem_append_right _ List.mem_cons_self)
        refine ⟨_, rfl, p, a, _, _, _, xs, ds, cs, us, rfl, h2, h3, R, td.nd, td.l6, fun q H3 hq s3 g3 => ?_⟩
        have hv : valV (kvsOf Prod.snd cs us) (Sum.inr (sgn e)) = some (atC (V.non, V.non) cs us e).2 := val_kvs R.lens.2 hm
        have d3 := ((R.same s3).at (z := (V.non, V.non)) hm).2.2.1
        refine ⟨_, rfl, _, rfl, _, _, e, rfl, rfl, hz, at_last, q, _, rfl, .inl ⟨_, Sum.inr (sgn e), .of g3, rfl, hv.symm⟩, rfl, ?_⟩
        have fin := k2 H3 (sH.trans s3)
        have ee : endsB ds cs (l' ++ [e]) = !isNon (laC ds cs e) := by
          unfold endsB
          rw [List.getLast?_concat]
        rw [ee, ← non_dec d3] at fin
        exact fin
      | _ => cases hb
end
end Dear

namespace Dear
open PySem PySem.Spec PyProof.Rows L2
/-! ### the law's own texts that stand -/
theorem in_sgn (c : Nat) (cs : List Nat) : inV (.str (sgn c)) ((cs.map sgn).map V.str) = decide (c ∈ cs) := by
  rw [inV_strs]
  refine decide_eq_decide.mpr ⟨fun h => ?_, fun h => List.mem_map_of_mem h⟩
  obtain ⟨d, hd, e⟩ := List.mem_map.mp h
  rw [← sgn_inj e]
  exact hd
theorem names_turn {H H' : Hp} {pN : Addr} {cs : List Nat} {j c : Nat} (s2 : Same H H') (e3 : H' pN = some (.lst (((cs.take j).map sgn).map V.str))) (hN : H pN = none) (hc : cs[j]? = some c) (l6 : cs.length ≤ 6) :
    (((cs.take j).map sgn).map V.str).length < sizeLine ∧ Same H (upd H' pN (.lst (((cs.take j).map sgn).map V.str ++ [.str (sgn c)]))) ∧ (upd H' pN (.lst (((cs.take j).map sgn).map V.str ++ [.str (sgn c)]))) pN = some (.lst (((cs.take (j + 1)).map sgn).map V.str)) := by
  refine ⟨?_, ?_, ?_⟩
  · rw [List.length_map, List.length_map]
    exact small1000 (Nat.le_trans (List.length_take_le' _ _) (by omega))
  · intro b o hb
    rw [upd_ne (ne_of_none hb hN)]
    exact s2 _ _ hb
  · rw [upd_same, take_more hc, List.map_append, List.map_append]
    rfl
def lastsC : List Nat → List (V × V) → List Nat
  | c :: cs, u :: us => if u.2 = V.non then lastsC cs us else c :: lastsC cs us
  | _, _ => []
theorem lastsC_snoc : ∀ {cs : List Nat} {us : List (V × V)} {i c : Nat} {u : V × V}, cs[i]? = some c → us[i]? = some u → lastsC (cs.take (i + 1)) (us.take (i + 1)) = lastsC (cs.take i) (us.take i) ++ (if u.2 = V.non then [] else [c])
  | [], _, _, _, _, h, _ => by simp at h
  | _ :: _, [], _, _, _, _, h => by simp at h
  | d :: cs, w :: us, 0, c, u, h1, h2 => by
    simp at h1 h2
    subst h1
    subst h2
    show (if w.2 = V.non then lastsC (cs.take 0) (us.take 0) else d :: lastsC (cs.take 0) (us.take 0)) = [] ++ _
    rw [List.take_zero]
    show (if w.2 = V.non then [] else [d]) = _
    rfl
  | d :: cs, w :: us, i + 1, c, u, h1, h2 => by
    have ih := lastsC_snoc (cs := cs) (us := us) (i := i) (c := c) (u := u) (by simpa using h1) (by simpa using h2)
    show (if w.2 = V.non then lastsC (cs.take (i + 1)) (us.take (i + 1)) else d :: lastsC (cs.take (i + 1)) (us.take (i + 1))) = (if w.2 = V.non then lastsC (cs.take i) (us.take i) else d :: lastsC (cs.take i) (us.take i)) ++ _
    rw [ih]
    by_cases e : w.2 = V.non
    · rw [if_pos e, if_pos e]
    · rw [if_neg e, if_neg e]
      rfl
theorem lastsC_sub : ∀ {cs : List Nat} {us : List (V × V)} {e : Nat}, e ∈ lastsC cs us → e ∈ cs
  | [], _, _, h => by
    unfold lastsC at h
    exact nomatch h
  | _ :: _, [], _, h => by
    unfold lastsC at h
    exact nomatch h
  | c :: cs, u :: us, e, h => by
    unfold lastsC at h
    by_cases z : u.2 = V.non
    · rw [if_pos z] at h
      exact List.mem_cons_of_mem _ (lastsC_sub h)
    · rw [if_neg z] at h
      rcases List.mem_cons.mp h with rfl | h
      · exact List.mem_cons_self
      · exact List.mem_cons_of_mem _ (lastsC_sub h)
theorem lastsC_len : ∀ {cs : List Nat} {us : List (V × V)}, (lastsC cs us).length ≤ cs.length
  | [], _ => by
    unfold lastsC
    exact Nat.le_refl _
  | _ :: _, [] => by
    unfold lastsC
    exact Nat.zero_le _
  | c :: cs, u :: us => by
    unfold lastsC
    have := lastsC_len (cs := cs) (us := us)
    by_cases z : u.2 = V.non
    · rw [if_pos z, List.length_cons]
      omega
    · rw [if_neg z, List.length_cons, List.length_cons]
      omega
theorem lastsC_mem {z : V × V} : ∀ {cs : List Nat} {us : List (V × V)} {e : Nat}, cs.Nodup → us.length = cs.length → e ∈ cs → decide (e ∈ lastsC cs us) = !decide ((atC z cs us e).2 = V.non)
  | c :: cs, u :: us, e, nd, hl, h => by
    have nd' := List.nodup_cons.mp nd
    unfold atC lastsC
    by_cases e1 : c = e
    · subst e1
      rw [if_pos rfl]
      by_cases z : u.2 = V.non
      · rw [if_pos z, decide_eq_true z, decide_eq_false fun q => nd'.1 (lastsC_sub q)]
        rfl
      · rw [if_neg z, decide_eq_false z, decide_eq_true List.mem_cons_self]
        rfl
    · rw [if_neg e1]
      have h' : e ∈ cs := by
        rcases List.mem_cons.mp h with h | h
        · exact absurd h.symm e1
        · exact h
      rw [← lastsC_mem (z := z) nd'.2 (by simpa using hl) h']
      by_cases z : u.2 = V.non
      · rw [if_pos z]
      · rw [if_neg z]
        refine decide_eq_decide.mpr ⟨fun q => ?_, fun q => List.mem_cons_of_mem _ q⟩
        rcases List.mem_cons.mp q with q | q
        · exact absurd q.symm e1
        · exact q
  | [], _, _, _, _, h => nomatch h
  | _ :: _, [], _, _, hl, _ => by simp at hl
def CompL (H : Hp) (D : Addr) (cs : List Nat) (us : List (V × V)) (i : Nat) (H' : Hp) : Prop := Same H H' ∧ H' D = some (.lst (((lastsC (cs.take i) (us.take i)).map sgn).map V.str))
/-- Hb: the heap ahead of the source, with the tongue -/
def spTextS : Sp := fun vs H Q _ => ∃ (v : V) (l : Addr) (d : D) (ds : List D) (cs fs : List Nat) (zs : List Str) (i : Int) (H0 Hb : Hp), vs = [v, .ref l] ∧ TgD d ds cs fs zs i ∧ TgAt H0 Hb v ds cs fs zs i ∧ Hb l = none ∧ Same Hb H ∧ Src H l ∧
  ∀ (t : List Nat) (H' : Hp), (∀ c ∈ t, c ∈ cs) → t.length ≤ 10 → Same Hb H' → Src H' l → Q (.str (txt t)) H'
section
variable {P : Program} {w : World} {K : PySem.W.Frag} {mg : Str → Option Value} {base : Heap}
theorem o__law_comes (T : Txt K mg) : OkF P w K mg base CX0 1 "_law_comes" ["_law_tongue_here", "_law_ahead", "_law_sign"] spComesB := by
  refine T.f__law_comes.ok c__law_comes (fun vs H Q E h => ?_) (fun f cdv A outer s H vs Q E hr h => ?_)
  · obtain ⟨v, z, y, ds, cs, fs, zs, i, H0, rfl, _⟩ := h
    rfl
  · obtain ⟨v, z, y, ds, cs, fs, zs, i, H0, rfl, tg, hl, k⟩ := h
    obtain ⟨p, a, b, c, xs, rfl, h2, h3, h4, h5, h6, h7⟩ := tg.ex
    refine ⟨_, (pss_cons (ps_if (pt_cmpR op_eq (pv 1) pe_str (nomark _))
(pss_one (ps_ret (pe_cmpR (op_notIn_seq_k K) (pv 2) (pe_ix (ix_tup_k K) (pv 0) pe_int (fun _ _ => rfl)) rfl)))
pss_nil)
(pss_one (ps_ret (pe_cmpR (op_notIn_seq_k K) (pe_op op_add_str (pv 1) (pv 2)) (pe_ix (ix_tup_k K) (pv 0) pe_int (fun _ _ => rfl)) rfl)))), ?_⟩
    unfold comesB at k
    refine ⟨_, rfl, rfl, _, rfl, itb (fun e => ?_) fun e => ?_⟩
    · rw [if_pos e] at k
      exact ⟨_, rfl, _, rfl, _, _, _, _, rfl, rfl, SqT.of h2, rfl, _, _, rfl, .inl (SqL.of h5), rfl, flat_str _, k⟩
    · rw [if_neg (by rw [e]; decide)] at k
      exact ⟨_, rfl, _, rfl, _, _, rfl, rfl, sz_lit hl, _, rfl, _, _, _, _, rfl, rfl, SqT.of h2, rfl, _, _, rfl, .inl (SqL.of h6), rfl, flat_str _, k⟩
theorem o__law_stands (T : Txt K mg) : OkF P w K mg base CX0 2 "_law_stands" ["_law_tongue_here", "_law_thing_here"] spStands := by
  have o__law_comes := o__law_comes (P := P) (w := w) (base := base) T
  refine T.f__law_stands.ok c__law_stands (fun vs H Q E h => ?_) (fun f cdv A outer s H vs Q E hr h => ?_)
  · obtain ⟨v, x, d, dx, ds, cs, fs, zs, i, H0, rfl, _⟩ := h
    rfl
  · obtain ⟨v, x, d, dx, ds, cs, fs, zs, i, H0, rfl, td, ta, hx, ok, k⟩ := h
    obtain ⟨p, a, b, c, xs, rfl, h2, h3, h4, h5, h6, h7⟩ := id ta.ex
    obtain ⟨us, R⟩ := Rows.of h4 td.sg
    have l6 := td.l6
    refine ⟨_, (pss_cons (ps_setLc (i := 2) (own := [("_law_one", 4)]) (g := gName 4) (tt := tYes) (by rfl) c__law_stands.nd rfl rfl (sw_true rfl rfl rfl (by decide +kernel)) (pi_list_k K (pe_ix (ix_tup_k K) (pv 0) pe_int (fun _ _ => rfl))) (blkOk_by (own := [("_law_one", 4)]) (N := n__law_stands) (sc := defScope s__law_stands) (by decide +kernel)) (fun _ _ _ _ _ => (pg_name (i := 4) c__law_stands.nd rfl (Or.inl rfl))) (fun _ _ _ _ _ => pts_nil) (fun _ _ _ _ _ => (pe_ix (ix_tup_k K) (pv 4) pe_int (fun _ _ => rfl))))
(pss_cons (ps_if (PW.pt (pw_or (pt_not (pt_val (pe_callB (call_isi_k K) (by rfl) T.b_isinstance (by decide +kernel) (pa_cons (pv 1) (pa_cons (pe_bltn (v := .ty "str") (by rfl) T.b_str (by decide +kernel) rfl) pa_nil))))) (pw_or1 (pt_cmpR op_gt (pe_callB call_len_str (by rfl) T.b_len PySem.boot_len (pa_cons (pv 1) pa_nil)) (pe_ix (ix_tup_k K) (pv 0) pe_int (fun _ _ => rfl)) (nomark _)))))
(pss_one (ps_ret pe_bl))
pss_nil)
(pss_cons (ps_for PassesOwn.never rfl (pi_range1 (by rfl) T.b_range (pa_cons (pe_callB call_len_str (by rfl) T.b_len PySem.boot_len (pa_cons (pv 1) pa_nil)) pa_nil)) (pg_name (i := 3) c__law_stands.nd rfl (Or.inl rfl))
(pss_one (ps_if (PW.pt (pw_or (pt_cmpR (op_notIn_seq_k K) (pe_ix ix_str (pv 1) (pv 3) (fun _ _ => rfl)) (pv 2) rfl) (pw_or1 (pt_not (pt_val (pe_c o__law_comes hr (pa_cons (pv 0) (pa_cons (pe_slice sl_str (pe_slice sl_str (pv 1) po_none (po_some (pv 3))) (po_some (pe_un un_neg pe_int)) po_none) (pa_cons (pe_ix ix_str (pv 1) (pv 3) (fun _ _ => rfl)) pa_nil)))))))))
(pss_one (ps_ret pe_bl))
pss_nil)))
(pss_one (ps_ret pe_bl))))), ?_⟩
    refine ⟨_, rfl, _, _, _, _, rfl, rfl, SqT.of h2, rfl, a, rfl, ⟨_, SqL.of h3⟩, fun pN hN => lc_list (K := K) (a := a) (xs := xs) (fun i H' => Same H H' ∧ H' pN = some (.lst (((cs.take i).map sgn).map V.str))) ⟨Same.upd hN, upd_same⟩ (fun i H' _ e => SqL.of (e.1 _ _ h3)) ?_ ?_⟩
    · rintro j x H' hx ⟨s2, e3⟩
      obtain ⟨q, c', u, rfl, hq, hc, _⟩ := R.get hx
      exact ⟨rfl, _, rfl, _, _, _, _, rfl, rfl, SqT.of (s2 _ _ hq), rfl, _, e3, names_turn s2 e3 hN hc l6⟩
    rintro H1 ⟨s1, atN⟩
    rw [R.lens.1, List.take_length] at atN
    have ta1 := ta.same s1
    refine ⟨_, rfl, _, _, _, _, _, rfl, .ty _, (hx.same s1).ty, kit_ty (kd_str dx), _, rfl, ?_⟩
    cases hx with
    | str z =>
      have hz : z.length ≤ sizeLine := Nat.le_trans ok (by decide)
      refine iteF ⟨_, rfl, _, rfl, hz, _, rfl, _, _, _, _, rfl, rfl, SqT.of (s1 _ _ h2), rfl, _, _, rfl, rfl, _, rfl, ?_⟩
      have k : ∀ H', Same H H' → Q (.bl (!decide (i < z.length) && walkB cs fs zs "" z.cps.toList)) H' := k
      refine itd (fun e => ?_) fun e => ?_
      · rw [decide_eq_true e] at k
        exact k _ s1
      rw [decide_eq_false e] at k
      have k2 : ∀ H', Same H H' → Q (.bl (walkB cs fs zs "" z.cps.toList)) H' := k
      clear k
      have i8 := td.i8
      generalize hl : z.cps.toList = l at k2
      have ez : z = txt l := by rw [← hl]; exact txt_of z
      subst ez
      have ln := txt_length l
      refine ⟨_, rfl, _, rfl, hz, _, rfl, by omega, by omega, for_range (lo := 0) (n := (txt l).length) (fun j σ H' => H' = H1 ∧ ∃ v3 v4, σ = [some (.ref p), some (.str (txt l)), some (.ref pN), v3, v4] ∧ walkB cs fs zs "" l = walkB cs fs zs (aheadOf l j) (l.drop j))
        ⟨rfl, _, _, rfl, by rw [ahead_zero]; rfl⟩ ?_ ?_⟩
      · rintro j σ H' hj ⟨rfl, v3, v4, rfl, hw⟩
        rw [Int.zero_add]
        have hlt : j < l.length := by omega
        have hc : l[j]? = some l[j] := List.getElem?_eq_getElem hlt
        generalize l[j] = c' at hc
        have hat : atI (txt l).cps.toList (j : Int) = some c' := by rw [txt_list]; exact atI_nat hc
        have hd : l.drop j = c' :: l.drop (j + 1) := by
          obtain ⟨hlt, e1⟩ := List.getElem?_eq_some_iff.mp hc
          rw [List.drop_eq_getElem_cons hlt, e1]
        rw [hd] at hw
        have hw : walkB cs fs zs "" l = (decide (c' ∈ cs) && (comesB fs zs (aheadOf l j) (sgn c') && walkB cs fs zs (sgn c') (l.drop (j + 1)))) := hw
        have al : (aheadOf l j).length ≤ 100 := by
          have e1 := cutS_length (cutS (txt l) none (some (j : Int))) (some (-1)) none
          have e2 := cutS_length (txt l) none (some (j : Int))
          show (cutS (cutS (txt l) none (some (j : Int))) (some (-1)) none).length ≤ 100
          omega
        have cl : (cutS (txt l) none (some (j : Int))).length ≤ sizeLine := Nat.le_trans (cutS_length _ _ _) hz
        refine ⟨_, rfl, _, rfl, _, _, c', rfl, rfl, hz, hat, _, rfl, _, _, rfl, .inl (SqL.of atN), rfl, flat_str _, ?_⟩
        rw [show inV (.str ⟨#[c']⟩) ((cs.map sgn).map V.str) = decide (c' ∈ cs) from in_sgn c' cs]
        by_cases hm : c' ∈ cs
        · rw [decide_eq_true hm, Bool.true_and] at hw
          rw [decide_eq_true hm]
          refine ⟨_, rfl, iteF ⟨_, rfl, _, rfl, _, rfl, _, rfl, _, rfl, hz, _, rfl, _, rfl, _, rfl, cl, _, rfl, _, rfl, _, _, c', rfl, rfl, hz, hat, _, aheadOf l j, sgn c', ds, cs, fs, zs, i, _, rfl, ta1, (by show (aheadOf l j).length + 1 ≤ 1000; omega), _, rfl, ?_⟩⟩
          refine itb (fun e => ?_) fun e => ?_
          · have e : (!comesB fs zs (aheadOf l j) (sgn c')) = true := e
            have e : comesB fs zs (aheadOf l j) (sgn c') = false := by simpa using e
            rw [e, Bool.false_and] at hw
            have fin := k2 _ s1
            rw [hw] at fin
            exact fin
          · have e : (!comesB fs zs (aheadOf l j) (sgn c')) = false := e
            have e : comesB fs zs (aheadOf l j) (sgn c') = true := by simpa using e
            rw [e, Bool.true_and] at hw
            exact ⟨rfl, _, _, rfl, by rw [ahead_succ hc]; exact hw⟩
        · rw [decide_eq_false hm, Bool.false_and] at hw
          rw [decide_eq_false hm]
          have fin := k2 _ s1
          rw [hw] at fin
          exact ⟨_, rfl, iteT fin⟩
      · rintro σ H' ⟨rfl, v3, v4, rfl, hw⟩
        rw [List.drop_of_length_le (by omega)] at hw
        have hw : walkB cs fs zs "" l = true := hw
        have fin := k2 _ s1
        rw [hw] at fin
        exact fin
    | _ => exact iteT (k _ s1)
theorem o__law_is_word (T : Txt K mg) : OkF P w K mg base CX0 3 "_law_is_word" ["_law_tongue_here", "_law_thing_here"] spIsWord := by
  have o__law_stands := o__law_stands (P := P) (w := w) (base := base) T
  refine T.f__law_is_word.ok c__law_is_word (fun vs H Q E h => ?_) (fun f cdv A outer s H vs Q E hr h => ?_)
  · obtain ⟨v, x, d, dx, ds, cs, fs, zs, i, H0, rfl, _⟩ := h
    rfl
  · obtain ⟨v, x, d, dx, ds, cs, fs, zs, i, H0, rfl, td, ta, hx, ok, k⟩ := h
    refine ⟨_, (pss_cons (ps_if (PW.pt (pw_or (pt_not (pt_val (pe_c o__law_stands hr (pa_cons (pv 0) (pa_cons (pv 1) pa_nil))))) (pw_or1 (pt_cmpR op_eq (pv 1) pe_str (nomark _)))))
(pss_one (ps_ret pe_bl))
pss_nil)
(pss_one (ps_ret (pe_cmpR (op_in_seq_k K) (pe_ix ix_str (pv 1) (pe_un un_neg pe_int) (fun _ _ => rfl)) (pe_lc (own := [("_law_sign", 2), ("_law_price_here", 3), ("_law_last", 4)]) (by rfl) c__law_is_word.nd (pi_list_k K (pe_ix (ix_tup_k K) (pv 0) pe_int (fun _ _ => rfl))) (blkOk_by (own := [("_law_sign", 2), ("_law_price_here", 3), ("_law_last", 4)]) (N := n__law_is_word) (sc := defScope s__law_is_word) (by decide +kernel)) (fun _ _ _ _ _ => (pg_tup_k K (n := 3) rfl (pgs_cons (pg_name (i := 2) c__law_is_word.nd rfl (Or.inl rfl)) (pgs_cons (pg_name (i := 3) c__law_is_word.nd rfl (Or.inl rfl)) (pgs_cons (pg_name (i := 4) c__law_is_word.nd rfl (Or.inl rfl)) pgs_nil))))) (fun _ _ _ _ _ => (pts_one (pt_cmpR op_notN (pv 4) pe_non (nomark _)))) (fun _ _ _ _ _ => (pv 2))) rfl)))), ?_⟩
    refine ⟨_, rfl, _, rfl, v, x, d, dx, ds, cs, fs, zs, i, H0, rfl, td, ta, hx, ok, fun H2 sH => ⟨_, rfl, ?_⟩⟩
    have no : wordB ds cs fs zs i dx = false → Q (.bl false) H2 := fun e => by
      have fin := k H2 sH
      rw [e] at fin
      exact fin
    cases hb : standsB cs fs zs i dx with
    | false =>
      refine iteT (no ?_)
      cases dx with
      | str z =>
        show (standsB cs fs zs i (.str z) && _) = false
        rw [hb, Bool.false_and]
      | _ => rfl
    | true =>
      refine iteF ?_
      cases hx with
      | str z =>
        have hb2 : (!decide (i < z.length) && walkB cs fs zs "" z.cps.toList) = true := hb
        rw [Bool.and_eq_true] at hb2
        have hall := walkB_of hb2.2
        have hz : z.length ≤ sizeLine := Nat.le_trans ok (by decide)
        have k2 : ∀ H', Same H H' → Q (.bl (standsB cs fs zs i (.str z) && endsB ds cs z.cps.toList)) H' := k
        clear k no
        rw [hb, Bool.true_and] at k2
        generalize hl : z.cps.toList = l at hall k2
        have ez : z = txt l := by rw [← hl]; exact txt_of z
        subst ez
        refine ⟨_, rfl, rfl, _, rfl, ?_⟩
        rcases List.eq_nil_or_concat l with e0 | ⟨l', e, e0⟩
        · subst e0
          exact iteT (k2 H2 sH)
        have e0 : l = l' ++ [e] := by simpa using e0
        subst e0
        have e9 : decide (V.str (txt (l' ++ [e])) = V.str "") = false := decide_eq_false fun z => by
          injection z with z
          have z := congrArg Str.length z
          rw [txt_length, List.length_append] at z
          have z : l'.length + 1 = 0 := z
          omega
        rw [e9]
        refine iteF ?_
        have ta2 := ta.same sH
        obtain ⟨p, a, b, c, xs, rfl, h2, h3, h4, h5, h6, h7⟩ := ta2.ex
        obtain ⟨us, R⟩ := Rows.of h4 td.sg
        have l6 := td.l6
        have hm : e ∈ cs := hall e (List.mem_append_right _ List.mem_cons_self)
        have d3 := (R.at (z := (V.non, V.non)) hm).2.2.1
        refine ⟨_, rfl, _, rfl, _, _, e, rfl, rfl, hz, at_last, _, rfl, _, _, _, _, rfl, rfl, SqT.of h2, rfl, a, rfl, ⟨_, SqL.of h3⟩, fun pW hW => lc_list (K := K) (a := a) (xs := xs) (CompL H2 pW cs us) ⟨Same.upd hW, upd_same⟩ (fun i H' _ e => SqL.of (e.1 _ _ h3)) ?_ ?_⟩
        · rintro j x H' hx ⟨s3, e3⟩
          obtain ⟨q, c', u, rfl, hq, hc, hu⟩ := R.get hx
          have sn := lastsC_snoc hc hu
          refine ⟨q, _, rfl, SqT.of (s3 _ _ hq), rfl, _, _, rfl, _, _, rfl, _, _, rfl, rfl, rfl, _, rfl, rfl, _, rfl, itnd (fun e => ?_) fun e => ?_⟩
          · rw [if_neg e] at sn
            refine ⟨_, rfl, _, e3, ?_, ?_, ?_⟩
            · rw [List.length_map, List.length_map]
              have l1 := lastsC_len (cs := cs.take j) (us := us.take j)
              exact small1000 (Nat.le_trans l1 (Nat.le_trans (List.length_take_le' _ _) (by omega)))
            · intro b o hb
              rw [upd_ne (ne_of_none hb hW)]
              exact s3 _ _ hb
            · rw [upd_same, sn, List.map_append, List.map_append]
              rfl
          · rw [if_pos e, List.append_nil] at sn
            exact ⟨s3, by rw [sn]; exact e3⟩
        · rintro H3 ⟨s3, e3⟩
          rw [R.lens.1, List.take_length, List.take_of_length_le (by rw [R.lens.2]; exact Nat.le_refl _)] at e3
          refine ⟨_, _, rfl, .inl (SqL.of e3), rfl, flat_str _, ?_⟩
          rw [show inV (.str ⟨#[e]⟩) (((lastsC cs us).map sgn).map V.str) = decide (e ∈ lastsC cs us) from in_sgn e _, lastsC_mem (z := (V.non, V.non)) td.nd R.lens.2 hm]
          have fin := k2 H3 (sH.trans s3)
          have ee : endsB ds cs (l' ++ [e]) = !isNon (laC ds cs e) := by
            unfold endsB
            rw [List.getLast?_concat]
          rw [ee, ← non_dec d3] at fin
          exact fin
      | _ => cases hb
end
end Dear

namespace Dear
open PySem PySem.Spec PyProof.Rows L2
def spCopy : Sp := fun vs H Q _ => ∃ (v : V) (d : D) (ds : List D) (cs fs : List Nat) (zs : List Str) (i : Int) (H0 : Hp), vs = [v] ∧ TgD d ds cs fs zs i ∧ TgAt H0 H v ds cs fs zs i ∧ ∀ v' H', Same H H' → Dt H' v' d → Q v' H'
section
variable {P : Program} {w : World} {K : PySem.W.Frag} {mg : Str → Option Value} {base : Heap}
theorem o__law_copy (T : Txt K mg) : OkF P w K mg base CX0 1 "_law_copy" ["_law_tongue_here"] spCopy := by
  refine T.f__law_copy.ok c__law_copy (fun vs H Q E h => ?_) (fun f cdv A outer s H vs Q E hr h => ?_)
  · obtain ⟨v, d, ds, cs, fs, zs, i, H0, rfl, _⟩ := h
    rfl
  · obtain ⟨v, d, ds, cs, fs, zs, i, H0, rfl, tg, ta, k⟩ := h
    obtain ⟨p, a, b, c, xs, rfl, h1, h2, h3, h4, h5, _⟩ := ta.ex
    refine ⟨_, (pss_one (ps_ret (pe_tup (pa_cons (pe_callTy (call_list_of_k K) (by rfl) T.b_list (by decide +kernel) (pa_cons (pe_ix (ix_tup_k K) (pv 0) pe_int (fun _ _ => rfl)) pa_nil)) (pa_cons (pe_callTy (call_list_of_k K) (by rfl) T.b_list (by decide +kernel) (pa_cons (pe_ix (ix_tup_k K) (pv 0) pe_int (fun _ _ => rfl)) pa_nil)) (pa_cons (pe_callTy (call_list_of_k K) (by rfl) T.b_list (by decide +kernel) (pa_cons (pe_ix (ix_tup_k K) (pv 0) pe_int (fun _ _ => rfl)) pa_nil)) (pa_cons (pe_ix (ix_tup_k K) (pv 0) pe_int (fun _ _ => rfl)) pa_nil))))))), ?_⟩
    refine ⟨_, rfl, _, _, _, _, rfl, rfl, SqT.of h1, rfl, _, _, rfl, .inl (SqL.of h2), fun q1 n1 => ?_⟩
    have s1 := Same.upd (o := .lst xs) n1
    have e1 : (upd H q1 (.lst xs)) q1 = some (.lst xs) := upd_same
    generalize upd H q1 (.lst xs) = H1 at s1 e1
    refine ⟨_, rfl, _, _, _, _, rfl, rfl, SqT.of (s1 _ _ h1), rfl, _, _, rfl, .inl (SqL.of (s1 _ _ h4)), fun q2 n2 => ?_⟩
    have s2 := Same.upd (o := .lst ((fs.map sgn).map V.str)) n2
    have e2 : (upd H1 q2 (.lst ((fs.map sgn).map V.str))) q2 = some (.lst ((fs.map sgn).map V.str)) := upd_same
    generalize upd H1 q2 (.lst ((fs.map sgn).map V.str)) = H2 at s2 e2
    have s12 := s1.trans s2
    refine ⟨_, rfl, _, _, _, _, rfl, rfl, SqT.of (s12 _ _ h1), rfl, _, _, rfl, .inl (SqL.of (s12 _ _ h5)), fun q3 n3 => ?_⟩
    have s3 := Same.upd (o := .lst (zs.map V.str)) n3
    have e3 : (upd H2 q3 (.lst (zs.map V.str))) q3 = some (.lst (zs.map V.str)) := upd_same
    generalize upd H2 q3 (.lst (zs.map V.str)) = H3 at s3 e3
    have s13 := s12.trans s3
    refine ⟨_, rfl, _, _, _, _, rfl, rfl, SqT.of (s13 _ _ h1), rfl, (by show 4 ≤ sizeLine; decide), fun q4 n4 => ?_⟩
    have s4 := Same.upd (o := .tup [.ref q1, .ref q2, .ref q3, .int i]) n4
    refine k _ _ (s13.trans s4) ?_
    rw [tg.eq]
    exact .tup upd_same (.cons (.lst (s4 _ _ (s3 _ _ (s2 _ _ e1))) (h3.same (s13.trans s4))) (.cons (.lst (s4 _ _ (s3 _ _ e2)) (dt_strs _)) (.cons (.lst (s4 _ _ e3) (dt_strs _)) (.cons (.int i) .nil))))
end
end Dear

namespace Dear
open PySem PySem.Spec PyProof.Rows L2
theorem str_len (a b : Str) : (a ++ b).length = a.length + b.length := by
  show (a.cps ++ b.cps).size = _
  exact Array.size_append
def spThing : Sp := fun vs H Q _ => ∃ (v : V) (l : Addr) (d : D) (ds : List D) (cs fs : List Nat) (zs : List Str) (i : Int) (H0 Hb : Hp), vs = [v, .ref l] ∧ TgD d ds cs fs zs i ∧ TgAt H0 Hb v ds cs fs zs i ∧ Hb l = none ∧ Same Hb H ∧ Src H l ∧
  ∀ (x : V) (dx : D) (H' : Hp), Same Hb H' → Dt H' x dx → Sz dx → Q x H'
def spPairs : Sp := fun vs H Q _ => ∃ (v : V) (d : D) (ds : List D) (cs fs : List Nat) (zs : List Str) (i : Int) (H0 : Hp), vs = [v] ∧ TgD d ds cs fs zs i ∧ TgAt H0 H v ds cs fs zs i ∧ ∀ H', Same H H' → Q (.bl true) H'
theorem But.same0 {l : Addr} {H H1 H2 : Hp} (s : Same H H1) (h : H l = none) (B : But l H1 H2) : Same H H2 := fun c o e => B c o (s c o e) (ne_of_none e h)
theorem okAll_sgn : ∀ {gs : List Nat}, (∀ c ∈ gs, c ∈ letters.cps.toList) → OkAll ((gs.map sgn).map D.str)
  | [], _ => trivial
  | g :: gs, h => ⟨⟨sgn_small g, asc_one (in_letters_asc (h g List.mem_cons_self))⟩, okAll_sgn fun c hc => h c (List.mem_cons_of_mem _ hc)⟩
theorem log_le {m : Int} (n : Nat) (h : m.natAbs ≤ n) (hn : n < 2 ^ 40 := by decide) : m.natAbs.log2 < 9000 := log_small (n := 40) (by decide) (Nat.lt_of_le_of_lt h hn) (by decide)
section
variable {P : Program} {w : World} {K : PySem.W.Frag} {mg : Str → Option Value} {base : Heap}
theorem o__law_text (T : Txt K mg) : OkF P w K mg base CX0 2 "_law_text" ["_law_tongue_here", "_law_source_here"] spTextS := by
  have o__law_comes := o__law_comes (P := P) (w := w) (base := base) T
  have o__law_draw := o__law_draw (P := P) (w := w) (base := base) T
  refine T.f__law_text.ok c__law_text (fun vs H Q E h => ?_) (fun f cdv A outer s H vs Q E hr h => ?_)
  · obtain ⟨v, l, d, ds, cs, fs, zs, i, H0, Hb, rfl, _⟩ := h
    rfl
  · obtain ⟨v, l, d, ds, cs, fs, zs, i, H0, Hb, rfl, t, tb, hlb, sb, S, k⟩ := h
    have tg := tb.same sb
    obtain ⟨p, a, b, c, xs, rfl, h2, h3, h4, h5, h6, h7⟩ := tg.ex
    obtain ⟨us, R⟩ := Rows.of h4 t.sg
    have xl := R.lens.1
    have l6 := t.l6
    have l2 := t.l2
    refine ⟨_, (pss_cons (ps_setLc (i := 2) (own := [("_law_one", 6)]) (g := gName 6) (tt := tYes) (by rfl) c__law_text.nd rfl rfl (sw_true rfl rfl rfl (by decide +kernel)) (pi_list_k K (pe_ix (ix_tup_k K) (pv 0) pe_int (fun _ _ => rfl))) (blkOk_by (own := [("_law_one", 6)]) (N := n__law_text) (sc := defScope s__law_text) (by decide +kernel)) (fun _ _ _ _ _ => (pg_name (i := 6) c__law_text.nd rfl (Or.inl rfl))) (fun _ _ _ _ _ => pts_nil) (fun _ _ _ _ _ => (pe_ix (ix_tup_k K) (pv 6) pe_int (fun _ _ => rfl))))
(pss_cons (ps_set (i := 3) c__law_text.nd rfl (Or.inr rfl) pe_str)
(pss_cons (ps_for PassesOwn.never rfl (pi_range1 (by rfl) T.b_range (pa_cons (pe_c o__law_draw hr (pa_cons (pv 1) (pa_cons (pe_op op_add (pe_ix (ix_tup_k K) (pv 0) pe_int (fun _ _ => rfl)) pe_int) pa_nil))) pa_nil)) (pg_name (i := 4) c__law_text.nd rfl (Or.inl rfl))
(pss_cons (ps_setLc (i := 5) (own := [("_law_sign", 7)]) (g := gName 7) (by rfl) c__law_text.nd rfl rfl (sw_true rfl rfl rfl (by decide +kernel)) (pi_list_k K (pv 2)) (blkOk_by (own := [("_law_sign", 7)]) (N := n__law_text) (sc := defScope s__law_text) (by decide +kernel)) (fun _ _ _ _ _ => (pg_name (i := 7) c__law_text.nd rfl (Or.inl rfl))) (fun _ _ _ _ _ => (pts_one (pt_val (pe_c o__law_comes hr (pa_cons (pv 0) (pa_cons (pe_slice sl_str (pv 3) (po_some (pe_un un_neg pe_int)) po_none) (pa_cons (pv 7) pa_nil))))))) (fun _ _ _ _ _ => (pv 7)))
(C8.pss_cut (ps_if (PW.pt (pw_or (pt_cmpR (op_eqD_k K hr.units) (pv 5) (pe_lst pa_nil) (nomark _)) (pw_or1 (pt_cmpR op_eq (pe_c o__law_draw hr (pa_cons (pv 1) (pa_cons pe_int pa_nil))) pe_int (nomark _)))))
(pss_one (ps_set (i := 5) c__law_text.nd rfl (Or.inl rfl) (pv 2)))
pss_nil)
(pss_one (ps_set (i := 3) c__law_text.nd rfl (Or.inr rfl) (pe_op op_add_str (pv 3) (pe_ix (ix_list_k K) (pv 5) (pe_c o__law_draw hr (pa_cons (pv 1) (pa_cons (pe_callB (call_len_seq_k K) (by rfl) T.b_len PySem.boot_len (pa_cons (pv 5) pa_nil)) pa_nil))) (fun _ _ => rfl))))))))
(pss_one (ps_ret (pv 3)))))), ?_⟩
    refine ⟨_, rfl, _, _, _, _, rfl, rfl, SqT.of h2, rfl, a, rfl, ⟨_, SqL.of h3⟩, fun pN hN => lc_list (K := K) (a := a) (xs := xs) (fun i H' => Same H H' ∧ H' pN = some (.lst (((cs.take i).map sgn).map V.str))) ⟨Same.upd hN, upd_same⟩ (fun i H' _ e => SqL.of (e.1 _ _ h3)) ?_ ?_⟩
    · rintro j x H' hx ⟨s2, e3⟩
      obtain ⟨q, c', u, rfl, hq, hc, _⟩ := R.get hx
      exact ⟨rfl, _, rfl, _, _, _, _, rfl, rfl, SqT.of (s2 _ _ hq), rfl, _, e3, names_turn s2 e3 hN hc l6⟩
    rintro H2 ⟨s2, atN⟩
    rw [xl, List.take_length] at atN
    have S2 := S.same s2
    have nN : pN ≠ l := S.ne hN
    have sb2 := sb.trans s2
    have back : ∀ {H' : Hp}, But l H2 H' → Same Hb H' := fun B => But.same0 sb2 hlb B
    have i8 := t.i8
    have i1 := t.i1
    refine ⟨_, rfl, _, rfl, _, _, _, _, rfl, rfl, SqT.of (s2 _ _ h2), rfl, _, _, rfl, rfl, l, i + 3, rfl, S2, by omega, log_le 11 (by omega), fun m H3 m0 m1 B3 S3 => ?_⟩
    refine ⟨m, rfl, by omega, by omega, for_range (lo := 0) (n := m.toNat) (fun j σ H' => But l H2 H' ∧ Src H' l ∧ ∃ (t : List Nat) (v4 v5 v6 v7 : Option V), σ = [some (.ref p), some (.ref l), some (.ref pN), some (.str (txt t)), v4, v5, v6, v7] ∧ (∀ c ∈ t, c ∈ cs) ∧ t.length ≤ j)
      ⟨B3, S3, [], _, _, _, _, rfl, (fun _ h => nomatch h), Nat.le_refl _⟩ ?_ ?_⟩
    · rintro j σ H4 hj ⟨B4, S4, tt, v4, v5, v6, v7, rfl, ht, hlen⟩
      have at4 := B4 _ _ atN nN
      have tl : (txt tt).length ≤ 10 := by
        rw [txt_length]
        omega
      refine ⟨_, rfl, pN, rfl, ⟨_, SqL.of at4⟩, fun pW hW => lc_list (K := K) (a := pN) (xs := (cs.map sgn).map V.str) (fun n H' => Same H4 H' ∧ ∃ gs : List Nat, (∀ c ∈ gs, c ∈ cs) ∧ gs.length ≤ n ∧ H' pW = some (.lst ((gs.map sgn).map V.str)))
        ⟨Same.upd hW, [], (fun _ h => nomatch h), Nat.le_refl _, upd_same⟩ (fun n H' _ e => SqL.of (e.1 _ _ at4)) ?_ ?_⟩
      · rintro n x H' hx ⟨s5, gs, hgs, hgl, atW⟩
        obtain ⟨c', hc, rfl⟩ := get_sgn hx
        have n6 : n < 6 := by
          have := (List.getElem?_eq_some_iff.mp hc).1
          omega
        have tg5 : TgAt H0 H' (.ref p) ds cs fs zs i := tb.same ((back B4).trans s5)
        refine ⟨rfl, _, rfl, _, rfl, _, rfl, _, rfl, _, rfl, sz_lit (by omega), _, rfl, _, _, _, ds, cs, fs, zs, i, H0, rfl, tg5, ?_, _, rfl, itb (fun _ => ?_) fun _ => ?_⟩
        · have := cutS_length (txt tt) (some (-1)) none
          show _ + 1 ≤ 1000
          omega
        · refine ⟨_, rfl, _, atW, ?_, ?_, gs ++ [c'], ?_, ?_, ?_⟩
          · rw [List.length_map, List.length_map]
            exact small1000 (by omega)
          · intro b o hb
            rw [upd_ne (ne_of_none hb hW)]
            exact s5 _ _ hb
          · intro c hc2
            rcases List.mem_append.mp hc2 with hc2 | hc2
            · exact hgs c hc2
            · have : c = c' := by simpa using hc2
              subst this
              exact List.mem_of_getElem? hc
          · rw [List.length_append]
            show _ + 1 ≤ _
            omega
          · rw [upd_same, List.map_append, List.map_append]
            rfl
        · exact ⟨s5, gs, hgs, by omega, atW⟩
      rintro H5 ⟨s5, gs, hgs, hgl, atW⟩
      have gl6 : gs.length ≤ 6 := by
        rw [List.length_map, List.length_map] at hgl
        omega
      have B5 : But l H2 H5 := B4.trans (.of s5)
      have S5 := S4.same s5
      have nW : pW ≠ l := S4.ne hW
      refine ⟨fun σ' H' => But l H2 H' ∧ Src H' l ∧ ∃ (pS : Addr) (es : List Nat) (v4 v6 v7 : Option V), σ' = [some (.ref p), some (.ref l), some (.ref pN), some (.str (txt tt)), v4, some (.ref pS), v6, v7] ∧ pS ≠ l ∧ H' pS = some (.lst ((es.map sgn).map V.str)) ∧ es ≠ [] ∧ (∀ c ∈ es, c ∈ cs) ∧ es.length ≤ 6, ?_, ?_⟩
      · refine ⟨_, rfl, (by show 0 ≤ sizeLine; decide), fun pE hE => ?_⟩
        have s6 := Same.upd (o := .lst []) hE
        have B6 : But l H2 (upd H5 pE (.lst [])) := B5.new hE
        have S6 := S5.same s6
        have okg : Ok (.lst ((gs.map sgn).map D.str)) := okAll_sgn fun c hc => t.sg.facts.2.2.2.2.2 c (hgs c hc)
        have nog : NoD (.lst ((gs.map sgn).map D.str)) := noAll_of (strs_flat _).2
        have dpg : dep (.lst ((gs.map sgn).map D.str)) ≤ 64 := by
          have := depAll_le (strs_flat (gs.map sgn)).1
          show depAll _ + 1 ≤ 64
          omega
        have csne : cs ≠ [] := fun e => by
          rw [e] at l2
          exact absurd l2 (by decide)
        refine ⟨_, _, (Dt.lst (s6 _ _ atW) (dt_strs _)).dp nog, Dt.dp (d := .lst []) trivial (Dt.lst upd_same .nil), shaped_py okg nog dpg, shaped_py (d := .lst []) trivial trivial (by decide), _, rfl, ?_⟩
        cases gs with
        | nil =>
          refine iteT ⟨_, rfl, B6, S6, pN, cs, _, _, _, rfl, nN, B6 _ _ atN nN, csne, fun _ h => h, l6⟩
        | cons g gs =>
          refine iteF ⟨_, rfl, l, 4, rfl, S6, by decide, log_le 4 (by decide), fun r H7 r0 r1 B7 S7 => ⟨rfl, _, rfl, itd (fun _ => ?_) fun _ => ?_⟩⟩
          · exact ⟨_, rfl, B6.trans B7, S7, pN, cs, _, _, _, rfl, nN, (B6.trans B7) _ _ atN nN, csne, fun _ h => h, l6⟩
          · exact ⟨B6.trans B7, S7, pW, g :: gs, _, _, _, rfl, nW, B7 _ _ (s6 _ _ atW) nW, (by intro z; cases z), hgs, gl6⟩
      · rintro σ' H6 ⟨B6, S6, pS, es, v4, v6, v7, rfl, nS, atS, ne, hes, el6⟩
        have len9 : (((es.map sgn).map V.str).length : Int) = (es.length : Int) := by rw [List.length_map, List.length_map]
        have e0 : 0 < es.length := List.length_pos_iff.mpr ne
        refine ⟨_, rfl, _, rfl, _, rfl, _, rfl, _, _, rfl, .inl (SqL.of atS), l, _, rfl, S6, ?_, ?_, fun r H7 r0 r1 B7 S7 => ?_⟩
        · rw [len9]
          omega
        · refine log_le 6 ?_
          rw [len9]
          omega
        · obtain ⟨x, hx, hm, hx2⟩ := at_lt (xs := (es.map sgn).map V.str) r0 r1
          obtain ⟨c', hc, rfl⟩ := get_sgn hx2
          refine ⟨_, _, _, _, rfl, rfl, SqL.of (B7 _ _ atS nS), hx, _, _, rfl, rfl, sz_lit (by show (txt tt).length + 1 ≤ 1000; omega), B6.trans B7, S7, tt ++ [c'], v4, some (.ref pS), v6, v7, ?_, ?_, ?_⟩
          · rw [← txt_snoc]
            rfl
          · intro c hc2
            rcases List.mem_append.mp hc2 with hc2 | hc2
            · exact ht c hc2
            · have : c = c' := by simpa using hc2
              subst this
              exact hes c (List.mem_of_getElem? hc)
          · rw [List.length_append]
            show _ + 1 ≤ _
            omega
    · rintro σ H4 ⟨B4, S4, tt, v4, v5, v6, v7, rfl, ht, hlen⟩
      exact ⟨_, rfl, k tt H4 ht (by omega) (back B4) S4⟩
end
end Dear

namespace Dear
open PySem PySem.Spec PyProof.Rows L2
section
variable {P : Program} {w : World} {K : PySem.W.Frag} {mg : Str → Option Value} {base : Heap}
theorem o__law_thing (T : Txt K mg) : OkF P w K mg base CX0 3 "_law_thing" ["_law_tongue_here", "_law_source_here"] spThing := by
  have o__law_text := o__law_text (P := P) (w := w) (base := base) T
  have o__law_draw := o__law_draw (P := P) (w := w) (base := base) T
  refine T.f__law_thing.ok c__law_thing (fun vs H Q E h => ?_) (fun f cdv A outer s H vs Q E hr h => ?_)
  · obtain ⟨v, l, d, ds, cs, fs, zs, i, H0, Hb, rfl, _⟩ := h
    rfl
  · obtain ⟨v, l, d, ds, cs, fs, zs, i, H0, Hb, rfl, td, tb, hlb, sb, S, k⟩ := h
    refine ⟨_, (pss_cons (ps_set (i := 2) c__law_thing.nd rfl (Or.inl rfl) (pe_c o__law_text hr (pa_cons (pv 0) (pa_cons (pv 1) pa_nil))))
(pss_cons (ps_set (i := 3) c__law_thing.nd rfl (Or.inl rfl) pe_str)
(pss_cons (ps_set (i := 4) c__law_thing.nd rfl (Or.inl rfl) (pe_ix ix_str (pv 3) (pe_c o__law_draw hr (pa_cons (pv 1) (pa_cons (pe_callB call_len_str (by rfl) T.b_len PySem.boot_len (pa_cons (pv 3) pa_nil)) pa_nil))) (fun _ _ => rfl)))
(pss_cons (ps_set (i := 5) c__law_thing.nd rfl (Or.inl rfl) (pe_c o__law_draw hr (pa_cons (pv 1) (pa_cons (pe_op op_add (pe_callB call_len_str (by rfl) T.b_len PySem.boot_len (pa_cons (pv 2) pa_nil)) pe_int) pa_nil))))
(pss_cons (ps_set (i := 6) c__law_thing.nd rfl (Or.inl rfl) (pe_c o__law_draw hr (pa_cons (pv 1) (pa_cons pe_int pa_nil))))
(pss_cons (ps_if (pt_cmpR op_eq (pv 6) pe_int (nomark _))
(pss_one (ps_ret (pe_op op_add_str (pe_op op_add_str (pe_slice sl_str (pv 2) po_none (po_some (pv 5))) (pv 4)) (pe_slice sl_str (pv 2) (po_some (pe_op op_add (pv 5) pe_int)) po_none))))
pss_nil)
(pss_cons (ps_if (pt_cmpR op_eq (pv 6) pe_int (nomark _))
(pss_one (ps_ret (pe_op op_add_str (pe_op op_add_str (pe_slice sl_str (pv 2) po_none (po_some (pv 5))) (pv 4)) (pe_slice sl_str (pv 2) (po_some (pv 5)) po_none))))
pss_nil)
(pss_cons (ps_if (pt_cmpR op_eq (pv 6) pe_int (nomark _))
(pss_one (ps_ret (pe_upper (pv 2))))
pss_nil)
(pss_cons (ps_if (pt_cmpR op_eq (pv 6) pe_int (nomark _))
(pss_cons (ps_set (i := 7) c__law_thing.nd rfl (Or.inl rfl) (pe_lst (pa_cons pe_non (pa_cons pe_bl (pa_cons pe_int (pa_cons (pe_callTy (call_list_tx rfl) (by rfl) T.b_list (by decide +kernel) (pa_cons (pv 2) pa_nil)) (pa_cons (pe_callTy (call_tuple_tx rfl) (by rfl) T.b_tuple (by decide +kernel) (pa_cons (pv 2) pa_nil)) (pa_cons pe_dnewK (pa_cons (pe_tup (pa_cons (pv 2) pa_nil)) (pa_cons (pe_lst (pa_cons (pv 2) pa_nil)) (pa_cons (pe_lst pa_nil) (pa_cons (pe_tup pa_nil) pa_nil))))))))))))
(pss_one (ps_ret (pe_ix (ix_list_k K) (pv 7) (pe_c o__law_draw hr (pa_cons (pv 1) (pa_cons pe_int pa_nil))) (fun _ _ => rfl)))))
pss_nil)
(pss_one (ps_ret (pv 2)))))))))))), ?_⟩
    refine ⟨_, rfl, _, rfl, v, l, d, ds, cs, fs, zs, i, H0, Hb, rfl, td, tb, hlb, sb, S, fun t H1 ht htl s1 S1 => ?_⟩
    have tl : (txt t).length ≤ 10 := by
      rw [txt_length]
      exact htl
    have tz : (txt t).length ≤ sizeLine := sz_lit (by omega)
    refine ⟨_, rfl, _, rfl, _, rfl, _, rfl, (by decide +kernel), l, 96, rfl, S1, by decide, log_le 96 (by decide), fun r H2 r0 r1 B2 S2 => ?_⟩
    obtain ⟨c, hc, hcm, hc2⟩ := at_lt (xs := (" !\"#$&'()*+,-./0123456789:;<=>?@ABCDEFGHIJKLMNOPQRSTUVWXYZ[\\]^_`abcdefghijklmnopqrstuvwxyz{|}~\n\t" : Str).cps.toList) r0 (by rw [show (" !\"#$&'()*+,-./0123456789:;<=>?@ABCDEFGHIJKLMNOPQRSTUVWXYZ[\\]^_`abcdefghijklmnopqrstuvwxyz{|}~\n\t" : Str).cps.toList.length = 96 from by decide +kernel]; exact r1)
    refine ⟨_, _, c, rfl, rfl, (by decide +kernel), hc, ?_⟩
    have s2 := But.same0 s1 hlb B2
    clear hc hcm hc2
    generalize (" !\"#$&'()*+,-./0123456789:;<=>?@ABCDEFGHIJKLMNOPQRSTUVWXYZ[\\]^_`abcdefghijklmnopqrstuvwxyz{|}~\n\t" : Str) = some_
    refine ⟨_, rfl, _, rfl, _, rfl, tz, _, _, rfl, rfl, l, _, rfl, S2, by omega, log_le 11 (by omega), fun at_ H3 a0 a1 B3 S3 => ?_⟩
    have s3 := But.same0 s2 hlb B3
    refine ⟨_, rfl, l, 8, rfl, S3, by decide, log_le 8 (by decide), fun way H4 w0 w1 B4 S4 => ?_⟩
    have s4 := But.same0 s3 hlb B4
    have cl : ∀ lo hi, (cutS (txt t) lo hi).length ≤ 10 := fun lo hi => Nat.le_trans (cutS_length _ _ _) tl
    have c1 : (⟨#[c]⟩ : Str).length = 1 := rfl
    refine ⟨_, rfl, rfl, _, rfl, itd (fun _ => ?_) fun _ => ?_⟩
    · have e1 := cl none (some at_)
      have e2 := cl (some (at_ + 1)) none
      have e3 : (cutS (txt t) none (some at_) ++ (⟨#[c]⟩ : Str)).length ≤ 11 := by rw [str_len, c1]; omega
      refine ⟨_, rfl, _, rfl, _, rfl, _, rfl, tz, _, rfl, _, _, rfl, rfl, sz_lit (by rw [c1]; omega), _, rfl, _, rfl, _, _, rfl, rfl, _, rfl, _, rfl, tz, _, _, rfl, rfl, sz_lit (by omega), k _ _ H4 s4 (.str _) ?_⟩
      show (_ ++ _ : Str).length ≤ 3000
      rw [str_len]
      omega
    refine ⟨_, rfl, rfl, _, rfl, itd (fun _ => ?_) fun _ => ?_⟩
    · have e1 := cl none (some at_)
      have e2 := cl (some at_) none
      have e3 : (cutS (txt t) none (some at_) ++ (⟨#[c]⟩ : Str)).length ≤ 11 := by rw [str_len, c1]; omega
      refine ⟨_, rfl, _, rfl, _, rfl, _, rfl, tz, _, rfl, _, _, rfl, rfl, sz_lit (by rw [c1]; omega), _, rfl, _, rfl, _, rfl, _, rfl, tz, _, _, rfl, rfl, sz_lit (by omega), k _ _ H4 s4 (.str _) ?_⟩
      show (_ ++ _ : Str).length ≤ 3000
      rw [str_len]
      omega
    refine ⟨_, rfl, rfl, _, rfl, itd (fun _ => ?_) fun _ => ?_⟩
    · have e1 := PyProof.Rows.len_upper (txt t)
      refine ⟨_, rfl, ⟨_, rfl⟩, _, rfl, rfl, by omega, k _ _ H4 s4 (.str _) ?_⟩
      show (Txt.upper (txt t)).length ≤ 3000
      omega
    refine ⟨_, rfl, rfl, _, rfl, itd (fun _ => ?_) fun _ => ?_⟩
    · obtain ⟨o, ho⟩ := S4.some
      have hzl : (txt t).length ≤ 1000 := by omega
      refine s_seq (s_set ?_)
      refine Mk.go (l := l) (by exact (mk_lst (mka_cons (mk_c .non) (mka_cons (mk_c (.bl _)) (mka_cons (mk_c (.int _)) (mka_cons (mk_ltx rfl hzl ho) (mka_cons (mk_ttx rfl hzl ho) (mka_cons (mk_dnew ho) (mka_cons (mk_tup (mka_cons (mk_var rfl (by first | exact .int _ | exact .str _ | exact .bl _ | exact .non | assumption)) mka_nil) ho) (mka_cons (mk_lst (mka_cons (mk_var rfl (by first | exact .int _ | exact .str _ | exact .bl _ | exact .non | assumption)) mka_nil) ho) (mka_cons (mk_lst mka_nil ho) (mka_cons (mk_tup mka_nil ho) mka_nil)))))))))) ho)) fun v5 H5 s5 d5 => ?_
      refine ⟨_, rfl, _, rfl, l, 10, rfl, S4.same s5, by decide, log_le 10 (by decide), fun r H6 r0 r1 B6 S6 => ?_⟩
      have s6 := But.same0 (s4.trans s5) hlb B6
      cases d5 with
      | lst ha hall =>
        obtain ⟨ne, ha'⟩ := off_some ha
        obtain ⟨x, hx, hm, hx2⟩ := at_lt r0 (by rw [hall.length]; exact r1)
        obtain ⟨dx, hdx, hD⟩ := hall.get hx2
        refine ⟨_, _, _, x, rfl, rfl, SqL.of (B6 _ _ ha' ne), hx, k x dx H6 s6 (hD.same B6.off).on ?_⟩
        have hmem := List.mem_of_getElem? hdx
        simp only [List.mem_cons, List.not_mem_nil, or_false] at hmem
        rcases hmem with rfl | rfl | rfl | rfl | rfl | rfl | rfl | rfl | rfl | rfl <;> exact trivial
    · exact ⟨_, rfl, k _ _ H4 s4 (.str _) (by show (txt t).length ≤ 3000; omega)⟩
end
end Dear

namespace Dear
open PySem PySem.Spec PyProof.Rows L2
section
variable {P : Program} {w : World} {K : PySem.W.Frag} {mg : Str → Option Value} {base : Heap}
theorem o__law_pairs_right (T : Txt K mg) : OkF P w K mg base CX0 8 "_law_pairs_right" ["_law_tongue_here"] spPairs := by
  have o__law_comes := o__law_comes (P := P) (w := w) (base := base) T
  have o_may_come := o_may_come (P := P) (w := w) (base := base) T
  refine T.f__law_pairs_right.ok c__law_pairs_right (fun vs H Q E h => ?_) (fun f cdv A outer s H vs Q E hr h => ?_)
  · obtain ⟨v, d, ds, cs, fs, zs, i, H0, rfl, _⟩ := h
    rfl
  · obtain ⟨v, d, ds, cs, fs, zs, i, H0, rfl, td, ta, k⟩ := h
    obtain ⟨p, a, b, c, xs, rfl, h2, h3, h4, h5, h6, h7⟩ := id ta.ex
    obtain ⟨us, R⟩ := Rows.of h4 td.sg
    have l6 := td.l6
    refine ⟨_, (pss_cons (ps_setLc (i := 1) (own := [("_law_one", 5)]) (g := gName 5) (tt := tYes) (by rfl) c__law_pairs_right.nd rfl rfl (sw_true rfl rfl rfl (by decide +kernel)) (pi_list_k K (pe_ix (ix_tup_k K) (pv 0) pe_int (fun _ _ => rfl))) (blkOk_by (own := [("_law_one", 5)]) (N := n__law_pairs_right) (sc := defScope s__law_pairs_right) (by decide +kernel)) (fun _ _ _ _ _ => (pg_name (i := 5) c__law_pairs_right.nd rfl (Or.inl rfl))) (fun _ _ _ _ _ => pts_nil) (fun _ _ _ _ _ => (pe_ix (ix_tup_k K) (pv 5) pe_int (fun _ _ => rfl))))
(pss_cons (ps_for PassesOwn.never rfl (pi_list_k K (pe_op op_cat (pe_lst (pa_cons pe_str pa_nil)) (pv 1))) (pg_name (i := 2) c__law_pairs_right.nd rfl (Or.inl rfl))
(pss_one (ps_for PassesOwn.never rfl (pi_list_k K (pv 1)) (pg_name (i := 3) c__law_pairs_right.nd rfl (Or.inl rfl))
(pss_cons (ps_set (i := 4) c__law_pairs_right.nd rfl (Or.inl rfl) (pe_c o_may_come hr (pa_cons (pv 0) (pa_cons (pv 2) (pa_cons (pv 3) pa_nil)))))
(pss_one (ps_if (PW.pt (pw_or (pt_not (pt_val (pe_callB (call_isi_k K) (by rfl) T.b_isinstance (by decide +kernel) (pa_cons (pv 4) (pa_cons (pe_bltn (v := .ty "bool") (by rfl) T.b_bool (by decide +kernel) rfl) pa_nil))))) (pw_or1 (pt_cmpR op_ne (pv 4) (pe_c o__law_comes hr (pa_cons (pv 0) (pa_cons (pv 2) (pa_cons (pv 3) pa_nil)))) (nomark _)))))
(pss_one (ps_ret pe_bl))
pss_nil))))))
(pss_one (ps_ret pe_bl)))), ?_⟩
    refine ⟨_, rfl, _, _, _, _, rfl, rfl, SqT.of h2, rfl, a, rfl, ⟨_, SqL.of h3⟩, fun pN hN => lc_list (K := K) (a := a) (xs := xs) (fun i H' => Same H H' ∧ H' pN = some (.lst (((cs.take i).map sgn).map V.str))) ⟨Same.upd hN, upd_same⟩ (fun i H' _ e => SqL.of (e.1 _ _ h3)) ?_ ?_⟩
    · rintro j x H' hx ⟨s2, e3⟩
      obtain ⟨q, c', u, rfl, hq, hc, _⟩ := R.get hx
      exact ⟨rfl, _, rfl, _, _, _, _, rfl, rfl, SqT.of (s2 _ _ hq), rfl, _, e3, names_turn s2 e3 hN hc l6⟩
    rintro H1 ⟨s1, atN⟩
    rw [R.lens.1, List.take_length] at atN
    refine ⟨(by show 1 ≤ sizeLine; decide), fun p1 hp1 => ⟨_, rfl, ?_⟩⟩
    have u1 := Same.upd (o := .lst [.str ""]) hp1
    refine ⟨_, _, _, _, rfl, rfl, upd_same, u1 _ _ atN, sz_lit ?_, fun p2 hp2 => ?_⟩
    · rw [List.length_map, List.length_map]
      show 1 + _ ≤ 1000
      omega
    have u2 := Same.upd (o := .lst ([.str ""] ++ (cs.map sgn).map V.str)) hp2
    have e2 : (upd (upd H1 p1 (.lst [.str ""])) p2 (.lst ([.str ""] ++ (cs.map sgn).map V.str))) p2 = _ := upd_same
    have s2 := s1.trans (u1.trans u2)
    have at2 := (u1.trans u2) _ _ atN
    generalize upd (upd H1 p1 (.lst [.str ""])) p2 (.lst ([.str ""] ++ (cs.map sgn).map V.str)) = H2 at e2 s2 at2 ⊢
    refine ⟨p2, rfl, ⟨_, SqL.of e2⟩, for_it (walk_list (xs := [.str ""] ++ (cs.map sgn).map V.str)) (fun j σ H' => Same H2 H' ∧ ∃ v2 v3 v4 v5, σ = [some (.ref p), some (.ref pN), v2, v3, v4, v5]) ⟨.refl _, _, _, _, _, rfl⟩ (fun j σ H' _ h => SqL.of (h.1 _ _ e2)) ?_ ?_⟩
    · rintro j x σ H3 H4 hj ⟨s3, v2, v3, v4, v5, rfl⟩ ⟨rfl, hx⟩
      obtain ⟨z, rfl, hz⟩ : ∃ z : Str, x = .str z ∧ z.length ≤ 1 := by
        have hm := List.mem_of_getElem? hx
        rcases List.mem_append.mp hm with h | h
        · have : x = .str "" := by simpa using h
          exact ⟨"", this, by decide⟩
        · obtain ⟨z, hz, rfl⟩ := List.mem_map.mp h
          obtain ⟨c, _, rfl⟩ := List.mem_map.mp hz
          exact ⟨_, rfl, Nat.le_refl _⟩
      refine ⟨_, rfl, pN, rfl, ⟨_, SqL.of (s3 _ _ at2)⟩, for_it (walk_list (xs := (cs.map sgn).map V.str)) (fun j σ H' => Same H2 H' ∧ ∃ v3 v4 v5, σ = [some (.ref p), some (.ref pN), some (.str z), v3, v4, v5]) ⟨s3, _, _, _, rfl⟩ (fun j σ H' _ h => SqL.of (h.1 _ _ at2)) ?_ ?_⟩
      · rintro m y σ H5 H6 hm ⟨s5, v3, v4, v5, rfl⟩ ⟨rfl, hy⟩
        obtain ⟨c', hc, rfl⟩ := get_sgn hy
        have ta5 := ta.same (s2.trans s5)
        refine ⟨_, rfl, _, rfl, _, rfl, _, z, sgn c', d, ds, cs, fs, zs, i, H0, rfl, td, ta5, (by show _ + 1 ≤ 1000; omega), fun H7 s7 => ?_⟩
        refine ⟨_, rfl, _, _, _, _, _, rfl, .ty _, (Dt.bl _).ty, kit_ty (kd_bool (.bl _)), _, rfl, iteF ?_⟩
        refine ⟨_, rfl, _, rfl, _, rfl, _, rfl, _, z, sgn c', ds, cs, fs, zs, i, H0, rfl, ta5.same s7, (by show _ + 1 ≤ 1000; omega), rfl, _, rfl, itnd (fun e => absurd rfl e) fun _ => ?_⟩
        exact ⟨s5.trans s7, _, _, _, rfl⟩
      · rintro σ H5 ⟨s5, v3, v4, v5, rfl⟩
        exact ⟨s5, _, _, _, _, rfl⟩
    · rintro σ H3 ⟨s3, v2, v3, v4, v5, rfl⟩
      exact k _ (s2.trans s3)
theorem shaped_bls (a b : Bool) : SeqAt.shaped (.list [.bool a, .bool b]) = true := by
  simp [SeqAt.shaped, PyData.canLay0, PyData.canLayAll0, PyData.depth, PyData.depthAll]
theorem ok_law (T : Txt K mg) {f : Addr} {fd : FuncData} (F : Fun K "law" "law" s_law f fd) : FnOk P w K mg base CX0 10 f fd ["_law_script"] (spLaw K) := by
  have o__law_tongue := o__law_tongue (P := P) (w := w) (base := base) T
  have o__law_copy := o__law_copy (P := P) (w := w) (base := base) T
  have o__law_thing := o__law_thing (P := P) (w := w) (base := base) T
  have o__law_source := o__law_source (P := P) (w := w) (base := base) T
  have o__law_cell := o__law_cell (P := P) (w := w) (base := base) T
  have o__law_stands := o__law_stands (P := P) (w := w) (base := base) T
  have o__law_is_word := o__law_is_word (P := P) (w := w) (base := base) T
  have o__law_pairs_right := o__law_pairs_right (P := P) (w := w) (base := base) T
  have o_may_stand := o_may_stand (P := P) (w := w) (base := base) T
  have o_is_word := o_is_word (P := P) (w := w) (base := base) T
  refine F.ok c_law (fun vs H Q E h => ?_) (fun cdv A outer s H vs Q E hr h => ?_)
  · obtain ⟨a, ns, rfl, _⟩ := h
    rfl
  · obtain ⟨a, ns, rfl, hS, hlen, k⟩ := h
    refine ⟨_, (pss_cons (ps_set (i := 1) c_law.nd rfl (Or.inl rfl) (pe_c o__law_tongue hr (pa_cons (pv 0) (pa_cons pe_int (pa_cons pe_int (pa_cons (pe_lst (pa_cons pe_int (pa_cons pe_int (pa_cons pe_int (pa_cons pe_int (pa_cons pe_int pa_nil)))))) pa_nil))))))
(pss_cons (ps_set (i := 2) c_law.nd rfl (Or.inl rfl) (pe_c o__law_copy hr (pa_cons (pv 1) pa_nil)))
(pss_cons (ps_for PassesOwn.never rfl (pi_range2 (by rfl) T.b_range (pa_cons pe_int (pa_cons (pe_callB (call_max2 rfl) (by rfl) T.b_max (by decide +kernel) (pa_cons pe_int (pa_cons (pe_callB (call_min2 rfl) (by rfl) T.b_min (by decide +kernel) (pa_cons (pe_callB (call_len_seq_k K) (by rfl) T.b_len PySem.boot_len (pa_cons (pv 0) pa_nil)) (pa_cons pe_int pa_nil))) pa_nil))) pa_nil))) (pg_name (i := 3) c_law.nd rfl (Or.inl rfl))
(pss_cons (ps_set (i := 4) c_law.nd rfl (Or.inl rfl) (pe_c o__law_thing hr (pa_cons (pv 1) (pa_cons (pe_c o__law_source hr (pa_cons (pe_c o__law_cell hr (pa_cons (pv 0) (pa_cons (pv 3) pa_nil))) (pa_cons (pv 3) pa_nil))) pa_nil))))
(pss_cons (ps_set (i := 5) c_law.nd rfl (Or.inl rfl) (pe_lst (pa_cons (pe_c o_may_stand hr (pa_cons (pv 1) (pa_cons (pv 4) pa_nil))) (pa_cons (pe_c o_is_word hr (pa_cons (pv 1) (pa_cons (pv 4) pa_nil))) pa_nil))))
(pss_cons (ps_if (pt_cmpR (op_neD_k K hr.units) (pe_lc (own := [("_law_one", 6)]) (g := gName 6) (by rfl) c_law.nd (pi_list_k K (pv 5)) (blkOk_by (own := [("_law_one", 6)]) (N := n_law) (sc := defScope s_law) (by decide +kernel)) (fun _ _ _ _ _ => (pg_name (i := 6) c_law.nd rfl (Or.inl rfl))) (fun _ _ _ _ _ => (pts_one (pt_not (pt_val (pe_callB (call_isi_k K) (by rfl) T.b_isinstance (by decide +kernel) (pa_cons (pv 6) (pa_cons (pe_bltn (v := .ty "bool") (by rfl) T.b_bool (by decide +kernel) rfl) pa_nil))))))) (fun _ _ _ _ _ => (pv 6))) (pe_lst pa_nil) (nomark _))
(pss_one (ps_ret pe_bl))
pss_nil)
(pss_one (ps_if (pt_cmpR (op_neD_k K hr.units) (pv 5) (pe_lst (pa_cons (pe_c o__law_stands hr (pa_cons (pv 1) (pa_cons (pv 4) pa_nil))) (pa_cons (pe_c o__law_is_word hr (pa_cons (pv 1) (pa_cons (pv 4) pa_nil))) pa_nil))) (nomark _))
(pss_one (ps_ret pe_bl))
pss_nil))))))
(pss_cons (ps_if (PW.pt (pw_or (pt_cmpR op_notBl (pe_c o_may_stand hr (pa_cons (pv 1) (pa_cons pe_str pa_nil))) pe_bl (nomark _)) (pw_or1 (pt_cmpR op_notBl (pe_c o_is_word hr (pa_cons (pv 1) (pa_cons pe_str pa_nil))) pe_bl (nomark _)))))
(pss_one (ps_ret pe_bl))
pss_nil)
(pss_one (ps_ret (pe_and (pe_c o__law_pairs_right hr (pa_cons (pv 1) pa_nil)) (pe_one (pe_cmpR (op_eqD_k K hr.units) (pv 1) (pv 2) (nomark _)))))))))), ?_⟩
    refine ⟨_, rfl, (by show 5 ≤ sizeLine; decide), fun g hg => ?_⟩
    have s1 := Same.upd (o := .lst [V.int 8, V.int 8, V.int 8, V.int 8, V.int 8]) hg
    refine ⟨a, ns, _, 6, g, [8, 8, 8, 8, 8], rfl, s1.seq hS, by decide, by decide, by decide, upd_same, by decide, by decide, fun v d ds cs fs zs n H2 s2 td ta _ _ => ?_⟩
    refine ⟨_, rfl, v, d, ds, cs, fs, zs, n, _, rfl, td, ta, fun v' H3 s3 d3 => ?_⟩
    have sH := (s1.trans s2).trans s3
    have ta3 := ta.same s3
    have hd3 := ta3.dt td
    refine ⟨_, rfl, _, _, rfl, .inl (sH.seq hS), _, _, rfl, _, _, rfl, _, _, rfl, ⟨by decide, by decide, ?_, ?_⟩, for_range (lo := 2) (fun i σ H' => Same H3 H' ∧ ∃ v3 v4 v5 v6, σ = [some (.ref a), some v, some v', v3, v4, v5, v6])
      ⟨.refl _, _, _, _, _, rfl⟩ ?_ ?_⟩
    · (repeat' split) <;> omega
    · (repeat' split) <;> omega
    · rintro i σ H4 hi ⟨s4, v3, v4, v5, v6, rfl⟩
      have ta4 := ta3.same s4
      refine ⟨_, rfl, _, rfl, _, rfl, a, ns, _, rfl, (sH.trans s4).seq hS, by omega, fun z => ⟨_, rfl, z, _, rfl, fun l H5 hl s5 S5 => ?_⟩⟩
      refine ⟨v, l, d, ds, cs, fs, zs, n, _, H4, rfl, td, ta4, hl, s5, S5, fun x dx H6 s6 hx okx => ?_⟩
      have ta6 := ta4.same s6
      refine ⟨_, rfl, _, rfl, v, x, d, dx, ds, cs, fs, zs, n, _, rfl, td, ta6, hx, okx, fun H7 s7 => ⟨_, rfl, _, rfl, v, x, d, dx, ds, cs, fs, zs, n, _, rfl, td, ta6.same s7, hx.same s7, okx, fun H8 s8 => ⟨(by show 2 ≤ sizeLine; decide), fun pF hF => ?_⟩⟩⟩
      have s68 := s7.trans s8
      have u9 := Same.upd (o := .lst [.bl (standsB cs fs zs n dx), .bl (wordB ds cs fs zs n dx)]) hF
      have e9 : (upd H8 pF (.lst [.bl (standsB cs fs zs n dx), .bl (wordB ds cs fs zs n dx)])) pF = _ := upd_same
      have s69 := s68.trans u9
      generalize upd H8 pF (.lst [.bl (standsB cs fs zs n dx), .bl (wordB ds cs fs zs n dx)]) = H9 at u9 e9 s69 ⊢
      refine ⟨_, rfl, pF, rfl, ⟨_, SqL.of e9⟩, fun pW hW => lc_list (K := K) (a := pF) (xs := [.bl (standsB cs fs zs n dx), .bl (wordB ds cs fs zs n dx)]) (fun i H' => Same H9 H' ∧ H' pW = some (.lst [])) ⟨Same.upd hW, upd_same⟩ (fun i H' _ e => SqL.of (e.1 _ _ e9)) ?_ ?_⟩
      · rintro j y H' hy ⟨s10, e10⟩
        obtain ⟨b, rfl⟩ : ∃ b, y = .bl b := by
          have := List.mem_of_getElem? hy
          simp only [List.mem_cons, List.not_mem_nil, or_false] at this
          rcases this with rfl | rfl
          · exact ⟨_, rfl⟩
          · exact ⟨_, rfl⟩
        exact ⟨rfl, _, rfl, _, _, _, _, _, rfl, .ty _, (Dt.bl b).ty, kit_ty (kd_bool (.bl b)), _, rfl, iteF ⟨s10, e10⟩⟩
      rintro H10 ⟨s10, e10⟩
      refine ⟨(by show 0 ≤ sizeLine; decide), fun pE hE => ?_⟩
      have u11 := Same.upd (o := .lst []) hE
      refine ⟨_, _, .lst (SqL.of (u11 _ _ e10)) .nil, .lst (SqL.of upd_same) .nil, shaped_nil, shaped_nil, ?_⟩
      rw [eqv_nil]
      refine ⟨_, rfl, iteF ?_⟩
      have s911 := s10.trans u11
      have s611 := s69.trans s911
      have ta11 := ta6.same s611
      refine ⟨_, rfl, _, rfl, _, rfl, v, x, d, dx, ds, cs, fs, zs, n, _, rfl, td, ta11, hx.same s611, okx, fun H12 s12 => ⟨_, rfl, _, rfl, v, x, d, dx, ds, cs, fs, zs, n, _, rfl, td, ta11.same s12, hx.same (s611.trans s12), okx, fun H13 s13 => ⟨(by show 2 ≤ sizeLine; decide), fun pG hG => ?_⟩⟩⟩
      have s1113 := s12.trans s13
      have u14 := Same.upd (o := .lst [.bl (standsB cs fs zs n dx), .bl (wordB ds cs fs zs n dx)]) hG
      refine ⟨_, _, .lst (SqL.of ((s911.trans (s1113.trans u14)) _ _ e9)) (.cons (.bl _) (.cons (.bl _) .nil)), .lst (SqL.of upd_same) (.cons (.bl _) (.cons (.bl _) .nil)), shaped_bls _ _, shaped_bls _ _, ?_⟩
      rw [eqv_same (shaped_bls _ _)]
      exact ⟨_, rfl, iteF ⟨((s4.trans s6).trans s611).trans (s1113.trans u14), _, _, _, _, rfl⟩⟩
    · rintro σ H4 ⟨s4, v3, v4, v5, v6, rfl⟩
      have ta4 := ta3.same s4
      have e0 : ("" : Str).cps.toList = [] := by decide +kernel
      have i1 := td.i1
      have hs : standsB cs fs zs n (.str "") = true := by
        show (!decide (n < (("" : Str).length : Int)) && walkB cs fs zs "" ("" : Str).cps.toList) = true
        rw [e0, decide_eq_false (by show ¬ n < (0 : Int); omega)]
        rfl
      have hw : wordB ds cs fs zs n (.str "") = false := by
        show (standsB cs fs zs n (.str "") && endsB ds cs ("" : Str).cps.toList) = false
        rw [e0, hs]
        rfl
      refine ⟨_, rfl, v, _, d, .str "", ds, cs, fs, zs, n, _, rfl, td, ta4, .str _, (by show ("" : Str).length ≤ 3000; decide), fun H5 s5 => ?_⟩
      rw [hs]
      refine ⟨_, _, rfl, rfl, _, rfl, iteF ?_⟩
      refine ⟨_, rfl, v, _, d, .str "", ds, cs, fs, zs, n, _, rfl, td, ta4.same s5, .str _, (by show ("" : Str).length ≤ 3000; decide), fun H6 s6 => ?_⟩
      rw [hw]
      refine ⟨_, _, rfl, rfl, _, rfl, iteF ?_⟩
      have s46 := s5.trans s6
      refine ⟨_, rfl, v, d, ds, cs, fs, zs, n, _, rfl, td, ta4.same s46, fun H7 s7 => ⟨_, rfl, iteT ?_⟩⟩
      have s37 := s4.trans (s46.trans s7)
      refine ⟨_, rfl, _, rfl, _, _, (hd3.same s37).dp td.flat.2, (d3.same s37).dp td.flat.2, td.shaped, td.shaped, ?_⟩
      rw [eqv_same td.shaped]
      exact k _
end
end Dear

namespace Dear
open PySem PySem.Spec PyProof.Rows L2
theorem walk {l : PySem.W.OpenLaw} {q : Program} {loose : List Str} {XP : (Str → Option Value) → Heap → Prop} {YP : World → Heap → Prop} {d : DefRec} {K : Params → PySem.W.Frag} (hn : l.most = some 63) (hdf : d.params.defaults = [])
    (hY : ∀ (w : World) (h : Heap), YP w h → (K w.params).In h)
    (F : ∀ (w : World) (mg : Str → Option Value) (fa : Addr) (h : Heap), (K w.params).In h → h.Ns mainGlobals mg → mg d.name = some (.ref fa) →
      ∃ fd : FuncData, (∀ (s : Shared) (u : Value), BindsTo s fd ⟨[u], []⟩ [("_law_script", u)]) ∧ ∀ base : Heap, (K w.params).In base → base.Ns mainGlobals mg → FnOk l.prog w (K w.params) mg base CX0 20 fa fd ["_law_script"] (spLaw (K w.params))) :
    PySem.W.WalkO q loose XP YP l.row.toRowW d [] (fun f vs => PySem.call f vs) :=
  L2.walk_of (n := 63) (k := 20) (x := "_law_script") (CX := fun _ => CX0) (sp := fun w => spLaw (K w.params)) hn (by decide) hdf ⟨rfl, by decide, by decide⟩ hY F (fun _ _ a ns hl _ hS => ⟨a, ns, rfl, hS, hl, fun _ => rfl⟩) fun _ _ _ _ _ z => z
theorem fin {l : PySem.W.OpenLaw} {w : World} {K : PySem.W.Frag} {h : Heap} {mg : Str → Option Value} {fa : Addr} (X : K.In h) (G : h.Ns mainGlobals mg) (hfa : mg "law" = some (.ref fa)) (T : Txt K mg) :
    ∃ fd : FuncData, (∀ (s : Shared) (v : Value), BindsTo s fd ⟨[v], []⟩ [("_law_script", v)]) ∧ ∀ base : Heap, K.In base → base.Ns mainGlobals mg → FnOk l.prog w K mg base CX0 20 fa fd ["_law_script"] (spLaw K) := by
  obtain ⟨f, fd, hm, F, hb⟩ := id T.f_law
  have e := hfa.symm.trans hm
  cases e
  refine ⟨fd, fun s v => ?_, fun base _ _ => (ok_law T F).mono (by decide)⟩
  obtain ⟨oc, od, kV, doc, pm, an, cdv, ct, osl, rfl, lk, hcd⟩ := F.ex
  exact .of_eq rfl
end Dear

open PySem PySem.W PyProof.Rows
set_option maxRecDepth 100000 in
set_option maxHeartbeats 0 in
theorem PySem.Challenge.cw_dearsigns_k06_texts_that_stand_holds : PySem.Challenge.rw_dearsigns_k06_texts_that_stand.Holds := by
  w_on; o_law; k_head; (case hw => w_witness2)
  k_fill
  refine Dear.walk (l := PySem.Challenge.rw_dearsigns_k06_texts_that_stand) rfl rfl (fun w h Y => PySem.W.kIn_of Y) ?F
  case F =>
    intro w mg fa h KX G hmg
    refine Dear.fin KX G hmg ?T
    case T =>
      refine' Dear.txt_mk KX G ?g_DearError ?i_DearError ?t_DearError ?g_NoTongue ?i_NoTongue ?t_NoTongue ?b_DearError ?q_NoTongue_DearError ?n_NoTongue_DearError ?q_NoTongue_NoTongue ?q_NoTongue_ValueError ?a1 ?l1 ?c1 ?k1 ?a2 ?l2 ?c2 ?k2 ?a3 ?l3 ?c3 ?k3 ?a4 ?l4 ?c4 ?k4 ?a5 ?l5 ?c5 ?k5 ?a6 ?l6 ?c6 ?k6 ?a7 ?l7 ?c7 ?k7 ?a8 ?l8 ?c8 ?k8 ?a9 ?l9 ?c9 ?k9 ?a10 ?l10 ?c10 ?k10 ?a11 ?l11 ?c11 ?k11 ?a12 ?l12 ?c12 ?k12 ?a13 ?l13 ?c13 ?k13 ?a14 ?l14 ?c14 ?k14 ?a15 ?l15 ?c15 ?k15 ?a16 ?l16 ?c16 ?k16 ?a17 ?l17 ?c17 ?k17 ?a18 ?l18 ?c18 ?k18 ?a19 ?l19 ?c19 ?k19 ?a20 ?l20 ?c20 ?k20 ?a21 ?l21 ?c21 ?k21 ?a22 ?l22 ?c22 ?k22 ?a23 ?l23 ?c23 ?k23 ?a24 ?l24 ?c24 ?k24 ?a25 ?l25 ?c25 ?k25 ?a26 ?l26 ?c26 ?k26 ?a27 ?l27 ?c27 ?k27 ?a28 ?l28 ?c28 ?k28 ?a29 ?l29 ?c29 ?k29 ?a30 ?l30 ?c30 ?k30 ?a31 ?l31 ?c31 ?k31 ?a32 ?a33 ?a34 ?a35 ?a36 ?a37 ?a38 ?a39 ?a40 ?a41 ?a42 ?a43 ?a44 ?a45 ?a46 ?a47 ?a48 ?a49 ?a50
      (case g_DearError => k_is); (case i_DearError => k_is); (case t_DearError => k_is); (case g_NoTongue => k_is); (case i_NoTongue => k_is); (case t_NoTongue => k_is); (case b_DearError => k_is); (case q_NoTongue_DearError => k_is)
      (case n_NoTongue_DearError => rfl); (case q_NoTongue_NoTongue => k_is); (case q_NoTongue_ValueError => k_is); (case a1 => k_is); (case l1 => k_is); (case c1 => k_is); (case k1 => k_is); (case a2 => k_is)
      (case l2 => k_is); (case c2 => k_is); (case k2 => k_is); (case a3 => k_is); (case l3 => k_is); (case c3 => k_is); (case k3 => k_is); (case a4 => k_is)
      (case l4 => k_is); (case c4 => k_is); (case k4 => k_is); (case a5 => k_is); (case l5 => k_is); (case c5 => k_is); (case k5 => k_is); (case a6 => k_is)
      (case l6 => k_is); (case c6 => k_is); (case k6 => k_is); (case a7 => k_is); (case l7 => k_is); (case c7 => k_is); (case k7 => k_is); (case a8 => k_is)
      (case l8 => k_is); (case c8 => k_is); (case k8 => k_is); (case a9 => k_is); (case l9 => k_is); (case c9 => k_is); (case k9 => k_is); (case a10 => k_is)
      (case l10 => k_is); (case c10 => k_is); (case k10 => k_is); (case a11 => k_is); (case l11 => k_is); (case c11 => k_is); (case k11 => k_is); (case a12 => k_is)
      (case l12 => k_is); (case c12 => k_is); (case k12 => k_is); (case a13 => k_is); (case l13 => k_is); (case c13 => k_is); (case k13 => k_is); (case a14 => k_is)
      (case l14 => k_is); (case c14 => k_is); (case k14 => k_is); (case a15 => k_is); (case l15 => k_is); (case c15 => k_is); (case k15 => k_is); (case a16 => k_is)
      (case l16 => k_is); (case c16 => k_is); (case k16 => k_is); (case a17 => k_is); (case l17 => k_is); (case c17 => k_is); (case k17 => k_is); (case a18 => k_is)
      (case l18 => k_is); (case c18 => k_is); (case k18 => k_is); (case a19 => k_is); (case l19 => k_is); (case c19 => k_is); (case k19 => k_is); (case a20 => k_is)
      (case l20 => k_is); (case c20 => k_is); (case k20 => k_is); (case a21 => k_is); (case l21 => k_is); (case c21 => k_is); (case k21 => k_is); (case a22 => k_is)
      (case l22 => k_is); (case c22 => k_is); (case k22 => k_is); (case a23 => k_is); (case l23 => k_is); (case c23 => k_is); (case k23 => k_is); (case a24 => k_is)
      (case l24 => k_is); (case c24 => k_is); (case k24 => k_is); (case a25 => k_is); (case l25 => k_is); (case c25 => k_is); (case k25 => k_is); (case a26 => k_is)
      (case l26 => k_is); (case c26 => k_is); (case k26 => k_is); (case a27 => k_is); (case l27 => k_is); (case c27 => k_is); (case k27 => k_is); (case a28 => k_is)
      (case l28 => k_is); (case c28 => k_is); (case k28 => k_is); (case a29 => k_is); (case l29 => k_is); (case c29 => k_is); (case k29 => k_is); (case a30 => k_is)
      (case l30 => k_is); (case c30 => k_is); (case k30 => k_is); (case a31 => k_is); (case l31 => k_is); (case c31 => k_is); (case k31 => k_is); (case a32 => k_is)
      (case a33 => k_is); (case a34 => k_is); (case a35 => k_is); (case a36 => k_is); (case a37 => k_is); (case a38 => k_is); (case a39 => k_is); (case a40 => k_is)
      (case a41 => k_is); (case a42 => k_is); (case a43 => k_is); (case a44 => k_is); (case a45 => k_is); (case a46 => k_is); (case a47 => k_is); (case a48 => k_is)
      (case a49 => k_is); (case a50 => k_is)
#print axioms PySem.Challenge.cw_dearsigns_k06_texts_that_stand_holds

