import PyProof.Rows.All
import Wide.All
import OpenK.AllK
import Wide.FinOn
import HandS.ForMost
import HandS.Wide
import HandS.IsInst
import HandS.Flow
import HandS.Walk
import HandS.Strs
import HandS.Style
import HandS.Exc
import HandS.Codes
import HandS.ForExc
import HandS.ExcIs
import HandS.Defaults
import HandS.ExcInit
import HandS.FStr
import HandS.ExcField
import Flt.Len
import PySem.Challenge.RW_dearsigns_k20_rows_written
set_option Elab.async false
set_option linter.all false
set_option maxRecDepth 100000
set_option maxHeartbeats 4000000

namespace Dear
open PySem PySem.Spec PyProof.Rows L2
/-! ### a def of the text, and a def with its promise -/
def Df (K : PySem.W.Frag) (mg : Str → Option Value) (x : Str) (st : Stmt) (ps : List Str) : Prop :=
  ∃ (f : Addr) (fd : FuncData), mg x = some (.ref f) ∧ Fun K x x st f fd ∧ Binds K fd ps []
def OkF (P : Program) (w : World) (K : PySem.W.Frag) (mg : Str → Option Value) (base : Heap) (CX : CXT) (k : Nat) (x : Str) (ps : List Str) (sp : Sp) : Prop :=
  ∃ (f : Addr) (fd : FuncData), mg x = some (.ref f) ∧ PySem.W.keepIn K (.ref f) = true ∧ Binds K fd ps [] ∧ FnOk P w K mg base CX k f fd ps sp
section
variable {P : Program} {w : World} {K : PySem.W.Frag} {mg : Str → Option Value} {base : Heap}
theorem Df.ok {x : Str} {st : Stmt} {N ps : List Str} {k : Nat} {sp : Sp} (D : Df K mg x st ps) (S : FnScope N ps (defScope st)) (len : ∀ vs H Q E, sp vs H Q E → vs.length = ps.length)
    (hbody : ∀ (f : Addr) (cdv : Value) (A : Around) (outer : List Env) (s : Shared) (H : Hp) (vs : List V) (Q : VK) (E : XK), Room k (A.deeper (envOfC x (defScope st) s.heap.objs.size f cdv)) → sp vs H Q E →
      ∃ t, PSs (cxOf CX0 P w K mg base N x (defScope st) f cdv A outer s H E).nox (defBody st) t ∧ t { nx := fun _ H' => Q .non H', rt := Q } (start N vs) H) : OkF P w K mg base CX0 (k + 1) x ps sp := by
  obtain ⟨f, fd, hm, F, hb⟩ := D
  exact ⟨f, fd, hm, F.kp, hb, F.ok S len (hbody f)⟩
end
section
variable {X : Cx}
theorem pe_c {k k' : Nat} {x : Str} {ps : List Str} {sp : Sp} {e : Expr} {es : List Expr} {t : TA} {p pos : Pos} (O : OkF X.prog X.w X.K X.mg X.base CX0 k x ps sp) (hr : Room k' X.A) (ha : PA X (e :: es) t) (hk : k ≤ k' := by decide) (hg : Gl X x := by rfl)
    (hdb : (x == ("__debug__" : Str)) = false := by decide) (he : starEach (e :: es) X.env = (false, eval e X.env) :: starEach es X.env := by rfl) (hpl : (backTo pos (starEach es X.env)).any (·.1) = false := by rfl) :
    PE X (.Call (.Name x p) (e :: es) [] pos) (tCall sp [] E0 t) := by
  obtain ⟨f, fd, hm, hkp, hb, F⟩ := O
  exact pe_call F (hr.mono hk) hg hm hkp hb .nil pass0 ha hdb he hpl
theorem pe_gi {x : Str} {i : Int} {pos : Pos} (h : ∃ t, X.mg x = some (.int i t)) (hg : Gl X x := by rfl) (hd : (x == ("__debug__" : Str)) = false := by decide) : PE X (.Name x pos) (tC (.int i)) := by
  obtain ⟨t, h⟩ := h
  exact pe_glob hg h ⟨_, rfl⟩ hd
theorem pe_gs {x : Str} {z : Str} {pos : Pos} (h : ∃ t, X.mg x = some (.str z t)) (hg : Gl X x := by rfl) (hd : (x == ("__debug__" : Str)) = false := by decide) : PE X (.Name x pos) (tC (.str z)) := by
  obtain ⟨t, h⟩ := h
  exact pe_glob hg h ⟨_, rfl⟩ hd
end
/-! ### the rules with the written part K named -/
section
variable {X : Cx} (K : PySem.W.Frag)
theorem ix_list_k (h : X.K = K := by rfl) : IxR X (rIxL K) := h ▸ ix_list
theorem ix_tup_k (h : X.K = K := by rfl) : IxR X (rIxT K) := h ▸ ix_tup
theorem sl_list_k (h : X.K = K := by rfl) : SlR X (rSlL K) := h ▸ sl_list
theorem sl_tup_k (h : X.K = K := by rfl) : SlR X (rSlT K) := h ▸ sl_tup
theorem op_in_seq_k (h : X.K = K := by rfl) : OpR X (compareOp .In) (rIn K false) := h ▸ op_in_seq
theorem op_notIn_seq_k (h : X.K = K := by rfl) : OpR X (compareOp .NotIn) (rIn K true) := h ▸ op_notIn_seq
def rLen : List V → Hp → VK → Prop := fun xs H Q => ∃ p ys, xs = [.ref p] ∧ (SqL K H p ys ∨ SqT K H p ys) ∧ Q (.int ys.length) H
theorem call_len_seq_k (h : X.K = K := by rfl) : CallR X (.builtin "len") (rLen K) := h ▸ call_len_seq
def rListOf : List V → Hp → VK → Prop := fun xs H Q => ∃ p ys, xs = [.ref p] ∧ (SqL K H p ys ∨ SqT K H p ys) ∧ ∀ l, H l = none → Q (.ref l) (upd H l (.lst ys))
theorem call_list_of_k (h : X.K = K := by rfl) : CallR X (.type "list") (rListOf K) := h ▸ call_list_of
def rTupOf : List V → Hp → VK → Prop := fun xs H Q => ∃ p ys, xs = [.ref p] ∧ ((SqL K H p ys ∧ ∀ l, H l = none → Q (.ref l) (upd H l (.tup ys))) ∨ (SqT K H p ys ∧ Q (.ref p) H))
theorem call_tuple_of_k (h : X.K = K := by rfl) : CallR X (.type "tuple") (rTupOf K) := h ▸ call_tuple_of
theorem cr_sum_k (hc : X.calm = true) (h : X.K = K := by rfl) : CallR X (.builtin "sum") (rSum K) := h ▸ cr_sum hc
theorem cr_max_k (hc : X.calm = true) (h : X.K = K := by rfl) : CallR X (.builtin "max") (rMax K) := h ▸ cr_max hc
theorem cr_min_k (hc : X.calm = true) (h : X.K = K := by rfl) : CallR X (.builtin "min") (rMin K) := h ▸ cr_min hc
theorem cr_any_k (hc : X.calm = true) (h : X.K = K := by rfl) : CallR X (.builtin "any") (rAny K) := h ▸ cr_any hc
theorem cr_all_k (hc : X.calm = true) (h : X.K = K := by rfl) : CallR X (.builtin "all") (rAll K) := h ▸ cr_all hc
theorem cr_sorted_k (h : X.K = K := by rfl) : CallR X (.builtin "sorted") (rSorted K) := h ▸ cr_sorted
theorem mt_index_k (h : X.K = K := by rfl) : MtR X "list.index" (rIndex K) := h ▸ mt_index
theorem op_eqD_k (hu : X.A.units + 64 < cLine) (h : X.K = K := by rfl) : OpR X (compareOp .Eq) (rEqD K) := h ▸ op_eqD hu
theorem op_neD_k (hu : X.A.units + 64 < cLine) (h : X.K = K := by rfl) : OpR X (compareOp .NotEq) (rNeD K) := h ▸ op_neD hu
theorem call_isi_k (h : X.K = K := by rfl) : CallR X (.builtin "isinstance") (rIsi K) := h ▸ call_isi
theorem call_isiT_k (h : X.K = K := by rfl) : CallR X (.builtin "isinstance") (rIsiT K) := h ▸ call_isiT
theorem op_catT_k (h : X.K = K := by rfl) : OpR X (binaryOp .Add) (rCatT K) := h ▸ op_catT
theorem pi_list_k {tg l : Expr} {tl : TE} (hl : PE X l tl) (h : X.K = K := by rfl) : PI X tg l (iList K tl) := h ▸ pi_list hl
theorem pi_tup_k {tg l : Expr} {tl : TE} (hl : PE X l tl) (h : X.K = K := by rfl) : PI X tg l (iTup K tl) := h ▸ pi_tup hl
theorem pe_revL_k {e : Expr} {te : TE} {k : Nat} {p1 p2 p3 pos : Pos} (he : PE X e te) (h : X.K = K := by rfl) : PE X (.Subscript e (.Slice none none (some (.UnaryOp .USub (.Constant (.int 1) k p1) p2)) p3) pos) (tRevL K te) := h ▸ pe_revL he
theorem pg_tup_k {es : List Expr} {k : Nat} {t : TGs} {n : Nat} {pos : Pos} (hc : X.calm = true) (hg : PGs X es t) (h : X.K = K := by rfl)
    (hn : (assignEach es X.env).length = n := by rfl) (hst : (assignEach es X.env).findIdx? (·.1) = none := by rfl) : PG X (.Tuple es k pos) (gTup K n t) := h ▸ pg_tup hc hg hn hst
def rDictP : List V → Hp → VK → Prop := fun xs H Q => ∃ (a : Addr) (ps : List Addr) (kvs : List (Key × V)), xs = [.ref a] ∧ SqL K H a (ps.map V.ref) ∧ Paired (fun p kv => SqT K H p [kV kv.1, kv.2]) ps kvs ∧
    ∀ p, H p = none → Q (.ref p) (upd H p (.dK (mergeK [] kvs)))
theorem call_dictP_k (hc : X.calm = true) (h : X.K = K := by rfl) : CallR X (.type "dict") (rDictP K) := h ▸ call_dictP hc
theorem u1 {n : Nat} (h : n + 64 < cLine) : n + 1 < cLine := by omega
def rJoin : V → List V → Hp → VK → Prop := fun x xs H Q => ∃ a p, ∃ ys : List Str, x = .str a ∧ xs = [.ref p] ∧ (SqL K H p (ys.map V.str) ∨ SqT K H p (ys.map V.str)) ∧ (ys.map (·.length)).sum + ys.length * a.length ≤ 16777216 ∧ Q (.str (Txt.join a ys)) H
theorem pe_join_k {o e : Expr} {to te : TE} {apos pos : Pos} (ho : PE X o to) (he : PE X e te) (h : X.K = K := by rfl) (hs : starEach [e] X.env = [(false, eval e X.env)] := by rfl) (hbase : attributeBase o "join" X.env (eval o X.env) = eval o X.env := by rfl) (hline : (apos.endLine == pos.line) = true := by rfl) :
    PE X (.Call (.Attribute o "join" apos) [e] [] pos) (tM1 (rJoin K) to te) := h ▸ pe_join ho he hs hbase hline
end
/-! ### heaps -/
/-- all that was tracked, but for what stands at l, is as it was -/
def But (l : Addr) (H H' : Hp) : Prop := ∀ b o, H b = some o → b ≠ l → H' b = some o
theorem But.refl (l : Addr) (H : Hp) : But l H H := fun _ _ h _ => h
theorem But.trans {l : Addr} {H H1 H2 : Hp} (a : But l H H1) (b : But l H1 H2) : But l H H2 := fun c o h n => b c o (a c o h n) n
theorem But.of {l : Addr} {H H1 : Hp} (a : Same H H1) : But l H H1 := fun c o h _ => a c o h
theorem But.upd {l : Addr} {H : Hp} {o : HO} : But l H (upd H l o) := fun b _ h n => by rw [upd_ne n]; exact h
theorem Same.upd {H : Hp} {l : Addr} {o : HO} (h : H l = none) : Same H (upd H l o) := fun b u e => by
  rw [upd_ne (ne_of_none e h)]
  exact e
theorem But.new {l : Addr} {H H1 : Hp} {p : Addr} {o : HO} (a : But l H H1) (h : H1 p = none) : But l H (L2.upd H1 p o) := a.trans (.of (Same.upd h))
theorem Same.new {H H1 : Hp} {p : Addr} {o : HO} (a : Same H H1) (h : H1 p = none) : Same H (L2.upd H1 p o) := a.trans (Same.upd h)
/-- the ends of an if -/
theorem itb {b : Bool} {A B : Prop} (h1 : b = true → A) (h2 : b = false → B) : if b = true then A else B := by
  cases b with
  | true => exact iteT (h1 rfl)
  | false => exact iteF (h2 rfl)
theorem itd {c : Prop} [Decidable c] {A B : Prop} (h1 : c → A) (h2 : ¬ c → B) : if decide c = true then A else B := itb (fun h => h1 (of_decide_eq_true h)) fun h => h2 (of_decide_eq_false h)
theorem itnd {c : Prop} [Decidable c] {A B : Prop} (h1 : ¬ c → A) (h2 : c → B) : if (!decide c) = true then A else B := itb (fun h => h1 (by simpa using h)) fun h => h2 (by simpa using h)
/-! ### readings, step by step -/
section
variable {σ : L2.St} {H : Hp} {D : Ends} {t1 t2 : TS} {te : TE} {i : Nat} {c : TT}
theorem s_seq (h : t1 { D with nx := t2 D } σ H) : tSeq t1 t2 D σ H := h
theorem s_set (h : te σ H fun v H' => D.nx (σ.set i (some v)) H') : tAsg te (gName i) D σ H := h
theorem s_ret (h : te σ H D.rt) : tRet te D σ H := h
theorem s_if (h : c σ H fun b H' => if b = true then t1 D σ H' else t2 D σ H') : tIfS c t1 t2 D σ H := h
theorem s_op {r : R2} {ta tb : TE} {Q : VK} (h : ta σ H fun x H1 => tb σ H1 fun y H2 => r x y H2 Q) : tOp r ta tb σ H Q := h
theorem s_nx (h : D.nx σ H) : tNext D σ H := h
end
end Dear

namespace Dear
open PySem PySem.Spec PyProof.Rows L2
/-! ### an exception that is caught, kept in a name, and asked behind the suite -/
/-- a kept exception at a: its class, its own dict -/
def ExK (cls : Value) (d : Option Addr) (a : Addr) : HO := .ext fun h => ∃ (oe : Obj) (vs : Array Value), h.get? a = some oe ∧ Zc cls d oe ∧ oe.data = .fields vs
theorem exK_ok {P : Program} {w : World} {H : Hp} {h : Heap} {a : Addr} {cls : Value} {d : Option Addr} {oe : Obj} {vs : Array Value} (e : h.get? a = some oe) (z : Zc cls d oe) (dt : oe.data = .fields vs) : ObjOk P w H h a (ExK cls d a) :=
  ⟨⟨oe, vs, e, z, dt⟩, ⟨oe, e⟩, fun _ _ ⟨o, v, q, r⟩ k => ⟨o, v, k o q, r⟩⟩
section
variable {X : Cx} {pins : List (Addr × Obj)} {σ : L2.St} {H : Hp} {s : Shared}
/-- an object that stands there untracked, new since the entry, becomes tracked -/
theorem track (I : Inv X pins σ H s) {a : Addr} {o : HO} {oe : Obj} (he : s.heap.get? a = some oe) (na : H a = none) (n0 : X.s_0.heap.get? a = none) (nL : a ≠ X.env.locals) (nC : ∀ v, oe.data ≠ .cell v)
    (nP : ∀ p ∈ X.pn ++ pins, p.1 ≠ a) (new : ObjOk X.prog X.w (upd H a o) s.heap a o) : Inv X pins σ (upd H a o) s where
  ok := I.ok
  os := I.os
  bare := I.bare
  base := {
    keep := I.base.keep
    slot := I.base.slot
    free := fun b u q n hx => by
      rw [upd_ne fun z => by rw [z, n0] at q; cases q]
      exact I.base.free b u q n hx
    there := I.base.there
    tups := fun b xs q => by
      have z := I.base.tups b xs q
      rw [upd_ne (ne_of_none z na)]
      exact z
    frzs := fun b u v q => by
      have z := I.base.frzs b u v q
      rw [upd_ne (ne_of_none z na)]
      exact z
    tbls := fun b ps q => by
      obtain ⟨m, z⟩ := I.base.tbls b ps q
      exact ⟨m, by rw [upd_ne (ne_of_none z na)]; exact z⟩ }
  loc := I.loc
  cell := I.cell
  free := by rw [upd_ne (Ne.symm nL)]; exact I.free
  freeC := fun x c e => by
    have ne : c ≠ a := fun z => by
      obtain ⟨v, ob, q, dq⟩ := I.cell x c e
      rw [z, he] at q
      cases q
      exact nC v dq
    rw [upd_ne ne]
    exact I.freeC x c e
  pin := fun p hp => by
    obtain ⟨p1, p2, p3⟩ := I.pin p hp
    exact ⟨p1, by rw [upd_ne (nP p hp)]; exact p2, p3⟩
  hok := fun b u e => by
    by_cases hb : b = a
    · subst hb
      rw [upd_same] at e
      cases e
      exact new
    · rw [upd_ne hb] at e
      exact (I.hok b u e).stay (fun _ _ _ q => q) (fun c q => by rw [upd_ne (ne_of_none q na)]; exact q) fun c xs q => by rw [upd_ne (ne_of_none q na)]; exact q
  len := I.len
end
/-- what «except x as n: y = n» wishes of an exception of the body: n's slot is i, y's is j; behind it the exception stands tracked -/
def wKept (K : PySem.W.Frag) (c : Value) (i j : Nat) (Wout : WX) (D : Ends) : WX := fun cls d σ H =>
  ∃ b, PySem.W.exmOne K cls c = some b ∧ (b = true → ∀ a, H a = none → D.nx (((σ.set i (some (.ref a))).set j (some (.ref a))).set i none) (upd H a (ExK cls d a))) ∧ (b = false → Wout cls d σ H)
section
variable {X : Cx} {x n y : Str} {c : Value} {i j : Nat} {body : List Stmt} {np pos pos2 p3 p4 p5 : Pos} {tb : WX → TS} {Wout : WX}
theorem ps_try_kept (hs : X.stack = X.env :: X.outer) (hf : X.env.frame = some X.env.locals) (hex : X.ex = []) (hN : X.N.Nodup) (hi : X.N[i]? = some n) (hj : X.N[j]? = some y) (hij : i ≠ j) (hln : X.env.kindOf n = some .local) (hly : X.env.kindOf y = some .local) (hc : Names X x c) (tk : Takes X Wout)
    (hb : ∀ (W : WX) (pn : List (Addr × Obj)) (xe : Value → Shared → Prop), Takes (X.tr pn xe) W → PassesOwn (model X.prog X.w) X.A X.env xe → PSs (X.tr pn xe) body (tb W))
    (hdn : (n == ("__debug__" : Str)) = false := by decide) (hcd : (n == ("__classdict__" : Str)) = false := by decide) :
    PS X (.Try body [.ExceptHandler (some (.Name x np)) (some n) [.Assign [.Name y p3] (.Name n p4) p5] pos2] [] [] pos) (fun D σ H => tb (wKept X.K c i j Wout D) D σ H) := by
  refine ⟨fun pins s σ H D I h => ?_⟩
  have ok := I.ok
  have frames : X.A.frames = some (X.env :: X.outer) := by rw [ok.frames, hs]
  refine wpAny_Try_except (wpAny_mono ((hb (wKept X.K c i j Wout D) (X.pn ++ pins) _ (fun u s1 air => ?_) PassesOwn.looking).run [] s σ H D (I.toTry _) h) (fun f s1 done => ?_) fun _ _ z => z)
  · obtain ⟨a, B, sI, pins', σ1, H1, cls, d, rfl, J1, nb, up, sky, na, os, ag, b, hm, yes, no⟩ := air
    have J : Inv X pins σ1 H1 sI := J1.ofTry ok
    rw [show X.stack = X.env :: X.outer from hs] at sky
    refine Sky.land Zc.steady frames hf sky fun h3 fl3 up3 => ?_
    have J3 : Inv X pins σ1 H1 { s1 with heap := h3 } := J.landed nb fl3.1 (up.trans up3) os ag
    obtain ⟨oe3, vs3, he3, hz3, hd3⟩ := fl3.there
    have nfr : a ∉ frs (X.env :: X.outer) := fun hm => by
      obtain ⟨_, o', e', hnf⟩ := fl3.2.2.1.mem hm
      rw [he3] at e'
      cases e'
      exact hnf _ hd3
    have nL : a ≠ X.env.locals := fun z => nfr (List.mem_filterMap.mpr ⟨X.env, List.mem_cons_self, by rw [hf, z]⟩)
    have nF : a ∉ X.fs := fun hm => by
      obtain ⟨e, he, q⟩ := List.mem_filterMap.mp hm
      exact nfr (List.mem_filterMap.mpr ⟨e, List.mem_cons_of_mem _ he, q⟩)
    -- it is new: neither there at the entry nor pinned
    have gone : ∀ o, sI.heap.get? a ≠ some o := fun o q => by
      have z := nb a o q (by rw [hs]; exact nfr)
      rw [fl3.2.1] at z
      cases z
    have n0 : X.s_0.heap.get? a = none := by
      cases q : X.s_0.heap.get? a with
      | none => rfl
      | some o =>
        obtain ⟨o', q'⟩ := J.base.there a o q (by rw [hex]; simp)
        exact absurd q' (gone o')
    have nP : ∀ p ∈ X.pn ++ pins, p.1 ≠ a := fun p hp z => gone p.2 (z ▸ (J.pin p hp).1)
    have S3 := J3.suite he3 hd3 na nL nF
    refine wpAny_handleBy_cons (codeAny_handlers_test ?_) (by intro q; cases q)
    have LT : PySem.W.Looks (model X.prog X.w) h3 (typeOf (.ref a)) cls := fun _ _ _ _ k q => wpAny_typeOf_ref (k _ _ he3) (by rw [hz3.1]; exact q)
    have LM := PySem.W.exm_one (M := model X.prog X.w) J3.kIn LT hm
    have named : ∀ {Q : Value → Shared → Prop} {E : Value → Shared → Prop}, Q c { s1 with heap := h3 } → wpAny (model X.prog X.w) (X.A.mark (some (.ref a))) (eval (.Name x np) X.env) Q E { s1 with heap := h3 } := fun {Q E} q => by
      obtain ⟨hg, hdbg, hm | ⟨hm, hv, hnn⟩⟩ := hc
      · exact ld_glob (X := X.suite a ((a, oe3) :: (X.pn ++ pins))) S3 hg hm q hdbg
      · exact ld_blt (X := X.suite a ((a, oe3) :: (X.pn ++ pins))) S3 hg hm hv q hnn hdbg
    refine named (LM.here ?_)
    cases b with
    | true =>
      refine codeAny_handlers_suite_as (HandSPX.lands_againZ fl3 fun h4 fl4 up4 => ?_)
      have J4 : Inv X pins σ1 H1 { s1 with heap := h4 } := J.landed nb fl4.1 ((up.trans up3).trans up4) os ag
      obtain ⟨oe4, vs4, he4, hz4, hd4⟩ := fl4.there
      refine store_ok (X := X.suite a ((a, oe4) :: (X.pn ++ pins))) (v := .ref a) (J4.suite he4 hd4 na nL nF) hN hi (.inl hln) rfl (fun s5 S5 => ?_) (.inr hln)
      have suite : PSs (X.suite a ((a, oe4) :: (X.pn ++ pins))) [.Assign [.Name y p3] (.Name n p4) p5] (tAsg (tVar i) (gName j)) := pss_one (ps_set hN hj (.inl hly) (pe_var hi (.inl hln) hdn hcd) (hf := .inr hly))
      have len1 : i < σ1.length := by
        rw [J.len]
        exact (List.getElem?_eq_some_iff.mp hi).1
      refine wpAny_mono (suite.run [] s5 _ H1 { nx := fun σ' H' => σ' = (σ1.set i (some (.ref a))).set j (some (.ref a)) ∧ H' = H1, rt := fun _ _ => False } S5 ⟨.ref a, by rw [List.getElem?_set_self len1], rfl, rfl⟩) (fun f s6 done => ?_) fun _ _ z => z.elim
      cases f with
      | next =>
        obtain ⟨σ6, H6, S6, rfl, rfl⟩ := done
        have he6 := (S6.pin (a, oe4) (List.mem_append_left _ List.mem_cons_self)).1
        refine gone_ok (track (S6.unsuite ok) (o := ExK cls d a) he6 na n0 nL (fun v q => by rw [hd4] at q; cases q) nP (exK_ok he6 hz4 hd4)) hN hi hln fun s7 J7 => ⟨_, _, J7, yes rfl a na⟩
      | brk =>
        obtain ⟨_, _, _, z⟩ := done
        exact z.elim
      | cont =>
        obtain ⟨_, _, _, z⟩ := done
        exact z.elim
      | ret u =>
        obtain ⟨_, _, _, _, _, z⟩ := done
        exact z.elim
    | false =>
      show wpAny _ X.A (handleBy (.ref a) X.env []) _ _ _
      refine wpAny_handleBy_nil ?_
      obtain ⟨_, _, _, oe, vs, T, _, _, he, _, hd, h1, _⟩ := id fl3
      unfold PySem.passOn
      refine wpAny_bind (wpAny_field he hd h1 ?_)
      rw [if_neg (show ¬ ((Value.ref T == Value.none) = true) from by simp)]
      have fin : wpAny (model X.prog X.w) X.A (setFlight (.ref a) X.env.frame) (fun _ s4 => wpAny (model X.prog X.w) X.A (throw (.ref a) : Sem Flow) (SP X pins D) X.xe s4) X.xe { s1 with heap := h3 } := by
        rw [hf]
        exact HandSPX.setFlight_upZ fl3 fun h4 hh4 up4 => wpAny_throw (tk _ _ ⟨a, B, sI, pins, σ1, H1, cls, d, rfl, J, nb, (up.trans up3).trans up4, .inr (.inr (by rw [hs]; exact hh4)), na, os, ag, no rfl⟩)
      first
        | exact wpAny_bind (wpAny_pure (wpAny_bind fin))
        | exact wpAny_bind fin
  · cases f with
    | next =>
      obtain ⟨σ', H', J', q⟩ := done
      exact wpAny_execs_nil ⟨σ', H', J'.ofTry ok, q⟩
    | brk =>
      obtain ⟨σ', H', J', q⟩ := done
      exact ⟨σ', H', J'.ofTry ok, q⟩
    | cont =>
      obtain ⟨σ', H', J', q⟩ := done
      exact ⟨σ', H', J'.ofTry ok, q⟩
    | ret u =>
      obtain ⟨v, σ', H', J', r, q⟩ := done
      exact ⟨v, σ', H', J'.ofTry ok, r, q⟩
end
/-! ### isinstance of a kept exception -/
/-- the object as the library's rules want it -/
theorem instAt_kept {h : Heap} {a D : Addr} {oe : Obj} {vs : Array Value} (e : h.get? a = some oe) (z : Zc (.ref D) none oe) (d : oe.data = .fields vs) : PySem.W.InstAt h a oe D none := by
  obtain ⟨oc, od, oda, osl⟩ := oe
  obtain ⟨h1, h2⟩ := z
  dsimp only at h1 h2 d
  subst h1 h2 d
  exact ⟨e, rfl, rfl, trivial⟩
def rIsX (K : PySem.W.Frag) : List V → Hp → VK → Prop := fun xs H Q => ∃ (a D : Addr) (c : V) (u : Value) (b : Bool), xs = [.ref a, c] ∧ H a = some (ExK (.ref D) none a) ∧ ExcC K D ∧ ClsV c u ∧ PySem.W.kitOne K (.ref D) u = some b ∧ Q (.bl b) H
def rIsXT (K : PySem.W.Frag) : List V → Hp → VK → Prop := fun xs H Q => ∃ (a D tp : Addr) (cs : List V) (us : List Value) (b : Bool), xs = [.ref a, .ref tp] ∧ H a = some (ExK (.ref D) none a) ∧ ExcC K D ∧ H tp = some (.tup cs) ∧ Paired ClsV cs us ∧ PySem.W.kitAny K (.ref D) us = some b ∧ Q (.bl b) H
section
variable {X : Cx} (K : PySem.W.Frag)
theorem call_isX_k (hk : X.K = K := by rfl) : CallR X (.builtin "isinstance") (rIsX K) := by
  subst hk
  intro pins s σ H xs us Q I r h
  obtain ⟨a, D, c, u, b, rfl, ha, C, k, e, q⟩ := h
  obtain ⟨u1, u2, rfl, r1, r2⟩ := vals2 r
  have e2 := k.eq r2
  subst e2
  cases r1
  obtain ⟨⟨oe, vs, he, hz, hd⟩, _⟩ := I.hok a _ ha
  exact PySem.W.kia_one (PySem.W.handS_kitx_exc C.hg C.hk C.hs C.hd C.ha C.hn C.ht C.hm) I.kIn (instAt_kept he hz hd) e (fun z => nomatch z) fun tk => ⟨.bl b, H, I.tok tk, rfl, q⟩
theorem call_isXT_k (hk : X.K = K := by rfl) : CallR X (.builtin "isinstance") (rIsXT K) := by
  subst hk
  intro pins s σ H xs us Q I r h
  obtain ⟨a, D, tp, cs, ws, b, rfl, ha, C, hT, k, e, q⟩ := h
  obtain ⟨u1, u2, rfl, r1, r2⟩ := vals2 r
  cases r1
  cases (show u2 = Value.ref tp from r2)
  obtain ⟨⟨oe, vs, he, hz, hd⟩, _⟩ := I.hok a _ ha
  obtain ⟨_, its, rv, o, h1, h2, n, h3⟩ := (show ObjOk X.prog X.w H s.heap tp (.tup cs) from I.hok tp _ hT)
  have e3 := ClsV.all k rv
  subst e3
  obtain ⟨oc, od, dt, sl⟩ := o
  simp only at h2 h3
  subst h2 h3
  exact PySem.W.kia_tup (PySem.W.handS_kitx_exc C.hg C.hk C.hs C.hd C.ha C.hn C.ht C.hm) I.kIn (instAt_kept he hz hd) h1 e (fun z => nomatch z) fun tk => ⟨.bl b, H, I.tok tk, rfl, q⟩
end
/-! ### facts of own exception classes, calls of defs that raise, defs with defaults -/
/-- an own exception class over ValueError, without an own __init__ -/
structure ExOwn (K : PySem.W.Frag) (mg : Str → Option Value) (x : Str) (C : Addr) : Prop where
  g : mg x = some (.ref C)
  x : PySem.W.excIn K C [.type "ValueError", .type "Exception", .type "BaseException", .type "object"] "ValueError.__new__" = true
  k : PySem.W.keepIn K (.ref C) = true
  b : PySem.W.subIn K (.ref C) (.type "BaseException") = some true
  t : PySem.W.typeIn K (.ref C) = some (.type "type")
  c : ExcC K C
theorem kit_ref {K : PySem.W.Frag} {A C : Addr} {b : Bool} (n : (Value.ref A == Value.ref C) = false) (i : PySem.W.isClsIn K C = true) (t : PySem.W.typeIn K (.ref C) = some (.type "type")) (q : PySem.W.subIn K (.ref A) (.ref C) = some b) : PySem.W.kitOne K (.ref A) (.ref C) = some b := by
  unfold PySem.W.kitOne
  rw [if_neg (by rw [n]; exact Bool.false_ne_true)]
  have i' : (PySem.W.clsIn K C).isSome = true := i
  show (if ((PySem.W.clsIn K C).isSome && PySem.W.typeIn K (.ref C) == some (.type "type")) = true then PySem.W.subIn K (.ref A) (.ref C) else none) = some b
  rw [i', t, if_pos (by simp)]
  exact q
theorem kit_self {K : PySem.W.Frag} {C : Addr} : PySem.W.kitOne K (.ref C) (.ref C) = some true := by
  unfold PySem.W.kitOne
  rw [if_pos (by simp)]
theorem kit_val {K : PySem.W.Frag} {A : Addr} (q : PySem.W.subIn K (.ref A) (.type "ValueError") = some true) : PySem.W.kitOne K (.ref A) (.type "ValueError") = some true := by
  unfold PySem.W.kitOne
  rw [if_neg (by simp)]
  have m : PySem.W.kitMeta "ValueError" = true := by decide +kernel
  show (if PySem.W.kitMeta "ValueError" = true then PySem.W.subIn K (.ref A) (.type "ValueError") else none) = some true
  rw [if_pos m]
  exact q
theorem exm_ref2 {K : PySem.W.Frag} {A C : Addr} {b : Bool} (h1 : PySem.W.subIn K (.ref C) (.type "BaseException") = some true) (i : PySem.W.isClsIn K C = true) (t : PySem.W.typeIn K (.ref C) = some (.type "type")) (q : PySem.W.subIn K (.ref A) (.ref C) = some b) : PySem.W.exmOne K (.ref A) (.ref C) = some b := by
  have i' : (PySem.W.clsIn K C).isSome = true := i
  show (if (PySem.W.subIn K (.ref C) (.type "BaseException") == some true) = true then (if ((PySem.W.clsIn K C).isSome && PySem.W.typeIn K (.ref C) == some (.type "type")) = true then PySem.W.subIn K (.ref A) (.ref C) else none) else none) = some b
  rw [h1, i', t, if_pos (by simp), if_pos (by simp)]
  exact q
/-- none of some classes -/
theorem kit_none {K : PySem.W.Frag} {t : Value} : ∀ {us : List Value}, (∀ u ∈ us, PySem.W.kitOne K t u = some false) → PySem.W.kitAny K t us = some false
  | [], _ => rfl
  | u :: us, h => kitAny_cons (h u List.mem_cons_self) (fun _ => kit_none fun x hx => h x (List.mem_cons_of_mem _ hx)) (fun z => by cases z)
theorem cls_all : ∀ {cs : List Addr}, Paired ClsV (cs.map V.ref) (cs.map Value.ref)
  | [] => .nil
  | c :: _ => .cons (.own c) cls_all
/-- a def with defaults dvs, and with its promise -/
def DfD (K : PySem.W.Frag) (mg : Str → Option Value) (x : Str) (st : Stmt) (ps : List Str) (dvs : List V) : Prop :=
  ∃ (f : Addr) (fd : FuncData), mg x = some (.ref f) ∧ FunD K x x (defArgs st) (defBody st) (defScope st) dvs [] f fd ∧ (∃ ds, Vals dvs ds ∧ Binds K fd ps ds) ∧ Binds K fd ps []
def OkD (P : Program) (w : World) (K : PySem.W.Frag) (mg : Str → Option Value) (base : Heap) (CX : CXT) (k : Nat) (x : Str) (ps : List Str) (dvs : List V) (sp : Sp) : Prop :=
  ∃ (f : Addr) (fd : FuncData), mg x = some (.ref f) ∧ PySem.W.keepIn K (.ref f) = true ∧ (∃ ds, Vals dvs ds ∧ Binds K fd ps ds) ∧ Binds K fd ps [] ∧ FnOk P w K mg base CX k f fd ps sp
theorem dfD_mk {K : PySem.W.Frag} {mg : Str → Option Value} {x : Str} {st : Stmt} {ps : List Str} {dvs : List V} {f T : Addr} {oc oC kV dc pm cd ct : Value} {od oD an : Option Addr} {sl sD : Array (Option Value)} {its : List Value} {n : Nat}
    (hm : mg x = some (.ref f)) (l : K.lookup f = some ⟨oc, od, .func (PySem.W.fnOf x x (defArgs st) (defBody st) (defScope st) (.ref T) kV dc pm an cd ct), sl⟩) (c : PySem.W.codeIn K cd x = true) (k : PySem.W.keepIn K (.ref f) = true)
    (d : K.lookup T = some ⟨oC, oD, .seq its.toArray n, sD⟩) (r : Vals dvs its) (hd : dvs ≠ []) {m : Nat} (hn : m + dvs.length = ps.length) (hz : dvs.drop dvs.length = [])
    (h1 : ∀ (T : Addr) (kV doc pm : Value) (an : Option Addr) (cdv ct : Value) (us its : List Value), us.length = m → its.length = dvs.length →
      ∃ k, bindArgs (PySem.W.fnOf x x (defArgs st) (defBody st) (defScope st) (.ref T) kV doc pm an cdv ct) ⟨us, []⟩ = seqItems? (.ref T) >>= k ∧ k (some its.toArray) = pure (ps.zip (us ++ its.drop 0)))
    (h2 : ∀ (T : Addr) (kV doc pm : Value) (an : Option Addr) (cdv ct : Value) (us its : List Value), us.length = ps.length → its.length = dvs.length →
      ∃ k, bindArgs (PySem.W.fnOf x x (defArgs st) (defBody st) (defScope st) (.ref T) kV doc pm an cdv ct) ⟨us, []⟩ = seqItems? (.ref T) >>= k ∧ k (some its.toArray) = pure (ps.zip (us ++ its.drop dvs.length))) : DfD K mg x st ps dvs := by
  have F : FunD K x x (defArgs st) (defBody st) (defScope st) dvs [] f (PySem.W.fnOf x x (defArgs st) (defBody st) (defScope st) (.ref T) kV dc pm an cd ct) :=
    ⟨⟨oc, od, .ref T, kV, dc, pm, an, cd, ct, sl, rfl, l, c, .inr ⟨hd, T, _, its, n, rfl, d, rfl, r⟩, .inl rfl⟩, k⟩
  refine ⟨f, _, hm, F, F.binds1 m 0 hd (by omega) h1, ?_⟩
  obtain ⟨ds, v, b⟩ := F.binds1 ps.length dvs.length hd (by omega) h2
  rw [hz] at v
  cases v
  exact b
section
variable {P : Program} {w : World} {K : PySem.W.Frag} {mg : Str → Option Value} {base : Heap}
theorem DfD.ok {CX : CXT} {x : Str} {st : Stmt} {N ps : List Str} {dvs : List V} {k : Nat} {sp : Sp} (D : DfD K mg x st ps dvs) (S : FnScope N ps (defScope st)) (len : ∀ vs H Q E, sp vs H Q E → vs.length = ps.length)
    (hbody : ∀ (f : Addr) (cdv : Value) (A : Around) (outer : List Env) (s : Shared) (H : Hp) (vs : List V) (Q : VK) (E : XK), Room k (A.deeper (envOfC x (defScope st) s.heap.objs.size f cdv)) → sp vs H Q E →
      ∃ t, PSs (cxOf CX P w K mg base N x (defScope st) f cdv A outer s H E) (defBody st) t ∧ t { nx := fun _ H' => Q .non H', rt := Q } (start N vs) H) : OkD P w K mg base CX (k + 1) x ps dvs sp := by
  obtain ⟨f, fd, hm, F, hb, hb0⟩ := D
  exact ⟨f, fd, hm, F.kp, hb, hb0, F.ok S len (hbody f)⟩
/-- a def that may raise -/
theorem Df.okX {x : Str} {st : Stmt} {N ps : List Str} {k : Nat} {sp : Sp} (D : Df K mg x st ps) (S : FnScope N ps (defScope st)) (len : ∀ vs H Q E, sp vs H Q E → vs.length = ps.length)
    (hbody : ∀ (f : Addr) (cdv : Value) (A : Around) (outer : List Env) (s : Shared) (H : Hp) (vs : List V) (Q : VK) (E : XK), Room k (A.deeper (envOfC x (defScope st) s.heap.objs.size f cdv)) → sp vs H Q E →
      ∃ t, PSs (cxOf (L2.CX P w) P w K mg base N x (defScope st) f cdv A outer s H E) (defBody st) t ∧ t { nx := fun _ H' => Q .non H', rt := Q } (start N vs) H) : OkF P w K mg base (L2.CX P w) (k + 1) x ps sp := by
  obtain ⟨f, fd, hm, F, hb⟩ := D
  exact ⟨f, fd, hm, F.kp, hb, F.okX S len (hbody f)⟩
end
section
variable {X : Cx} {k k' : Nat} {x : Str} {ps : List Str} {sp : Sp} {e : Expr} {es : List Expr} {t : TA} {p pos : Pos} {W : WX} {dvs : List V}
/-- f(e, ..) where f may raise -/
theorem pe_cx (O : OkF X.prog X.w X.K X.mg X.base (L2.CX X.prog X.w) k x ps sp) (hr : Room k' X.A) (tk : Takes X W) (ha : PA X (e :: es) t) (hk : k ≤ k' := by decide) (hg : Gl X x := by rfl)
    (hdb : (x == ("__debug__" : Str)) = false := by decide) (he : starEach (e :: es) X.env = (false, eval e X.env) :: starEach es X.env := by rfl) (hpl : (backTo pos (starEach es X.env)).any (·.1) = false := by rfl) :
    PE X (.Call (.Name x p) (e :: es) [] pos) (tCallS sp (WE W) t) := by
  obtain ⟨f, fd, hm, hkp, hb, F⟩ := O
  exact pe_callS F (hr.mono hk) hg hm hkp hb (fun σ => passAt tk σ) ha hdb he hpl
/-- the same, f with defaults, all arguments written -/
theorem pe_cxn (O : OkD X.prog X.w X.K X.mg X.base (L2.CX X.prog X.w) k x ps dvs sp) (hr : Room k' X.A) (tk : Takes X W) (ha : PA X (e :: es) t) (hk : k ≤ k' := by decide) (hg : Gl X x := by rfl)
    (hdb : (x == ("__debug__" : Str)) = false := by decide) (he : starEach (e :: es) X.env = (false, eval e X.env) :: starEach es X.env := by rfl) (hpl : (backTo pos (starEach es X.env)).any (·.1) = false := by rfl) :
    PE X (.Call (.Name x p) (e :: es) [] pos) (tCallS sp (WE W) t) := by
  obtain ⟨f, fd, hm, hkp, _, hb, F⟩ := O
  exact pe_callS F (hr.mono hk) hg hm hkp hb (fun σ => passAt tk σ) ha hdb he hpl
/-- the same, the defaults fill up -/
def tCallD (sp : Sp) (dvs : List V) (E : L2.St → XK) (t : TA) : TE := fun σ H Q => t σ H fun vs H1 => sp (vs ++ dvs) H1 Q (E σ)
theorem pe_cxd (O : OkD X.prog X.w X.K X.mg X.base (L2.CX X.prog X.w) k x ps dvs sp) (hr : Room k' X.A) (tk : Takes X W) (ha : PA X (e :: es) t) (hk : k ≤ k' := by decide) (hg : Gl X x := by rfl)
    (hdb : (x == ("__debug__" : Str)) = false := by decide) (he : starEach (e :: es) X.env = (false, eval e X.env) :: starEach es X.env := by rfl) (hpl : (backTo pos (starEach es X.env)).any (·.1) = false := by rfl) :
    PE X (.Call (.Name x p) (e :: es) [] pos) (tCallD sp dvs (WE W) t) := by
  obtain ⟨f, fd, hm, hkp, ⟨ds, hv, hb⟩, _, F⟩ := O
  refine ⟨fun pins s σ H Q I h => ?_⟩
  refine wpAny_Call_Name_kw (ld_glob I hg hm ?_ hdb)
  refine PySem.W.callWith_K (h₀ := X.base) I.ok.mod.kin hkp (thn (ha.run pos pins s σ H _ I h) fun us s1 ⟨vs, H1, I1, r, q⟩ => ⟨I1.kIn, ?_⟩) he hpl
  have hl : (vs ++ dvs).length = ps.length := F.len _ _ _ _ q
  have b := hb s1 us I1.kIn (by rw [← hl, List.length_append, List.length_append, r.length, hv.length])
  refine wpAny_call (codeAny_mono (F.run X.A X.stack s1 H1 ⟨us, []⟩ (us ++ ds) (vs ++ dvs) Q (WE W σ) (hr.mono hk) I1.env0 b (r.append hv) q) fun rr s2 hq => ?_)
  cases rr with
  | error e => exact passAt tk σ pins H1 s1 e s2 I1 hq
  | ok fl =>
    cases fl with
    | ret u => exact I1.after hq
    | next => exact False.elim hq
    | brk => exact False.elim hq
    | cont => exact False.elim hq
end
end Dear

namespace Dear
open PySem PySem.Spec PyProof.Rows L2
/-! ### own exceptions with an own __init__: X(DearError), DearError.__init__(self, f'..{f}'), self.f = f -/
/-- what may stand in such a field -/
def FmtV (v : V) : Prop := v = .non ∨ (∃ y : Str, v = .str y ∧ y.length ≤ 900) ∨ ∃ i : Int, v = .int i ∧ i.natAbs < 2 ^ 64
theorem int_len {i : Int} (h : i.natAbs < 2 ^ 64) : (Str.ofString (toString i)).length ≤ 900 ∧ i.natAbs.log2 < 1920 := by
  constructor
  · have e := int_text_length_le10 (k := 30) (a := i) (by decide) (Nat.lt_of_lt_of_le h (by decide))
    rw [PySem.ofString_length]
    omega
  · have e : i.natAbs.log2 < 64 := PySem.Flt.log2_lt_of (by decide) h
    omega
section
variable {X : Cx}
/-- {x} of None, a text, a number: some short text -/
def tFmtN (te : TE) : TE := fun σ H Q => te σ H fun x H1 => FmtV x ∧ ∀ z : Str, z.length ≤ 900 → Q (.str z) H1
theorem pe_fmtN {e : Expr} {te : TE} {pos : Pos} (he : PE X e te) : PE X (.FormattedValue e (-1) none pos) (tFmtN te) := by
  refine ⟨fun pins s σ H Q I h => wpAny_FormattedValue_plain (thn (he.run pins s σ H _ I h) fun v s1 hv => ?_)⟩
  obtain ⟨x, H1, J, r, hx, q⟩ := hv
  rcases hx with e | ⟨y, e, hy⟩ | ⟨i, e, hi⟩
  · subst e
    cases (show v = Value.none from r)
    exact wpAny_formatField_none ⟨.str "None", H1, (J.tok _), ⟨_, rfl⟩, q _ (by decide +kernel)⟩
  · subst e
    obtain ⟨t, e⟩ := r
    subst e
    have q' := q y hy
    exact wpAny_formatField_str ⟨.str y, H1, J, ⟨t, rfl⟩, q'⟩ ⟨.str y, H1, J.tok _, ⟨_, rfl⟩, q'⟩ (Nat.le_trans hy (by decide))
  · subst e
    obtain ⟨t, e⟩ := r
    subst e
    exact wpAny_formatField_int (int_len hi).2 ⟨.str (Str.ofString (toString i)), H1, J.tok _, ⟨_, rfl⟩, q _ (int_len hi).1⟩
end
/-- C.__init__ of an own exception class without an own one is ValueError's -/
structure DrI (K : PySem.W.Frag) (mg : Str → Option Value) (x : Str) (C : Addr) : Prop where
  g : mg x = some (.ref C)
  s : PySem.W.specialIn K (.ref C) "__getattribute__" = some (some (.builtin "type.__getattribute__"))
  r : PySem.W.readsIn K C (.type "type") = true
  v : PySem.W.findCls K (.ref C) (.type "type") "__init__" = some (.val (.builtin "ValueError.__init__"))
section
variable {X : Cx}
theorem pe_drinit {e : Expr} {es : List Expr} {ta : TA} {x : Str} {C0 : Addr} {pl : Sem Bool} {p1 p2 pos : Pos} (T : DrI X.K X.mg x C0) (ha : PA X (e :: es) ta) (hg : Gl X x := by rfl) (hdb : (x == ("__debug__" : Str)) = false := by decide)
    (hc : eval (.Call (.Attribute (.Name x p1) "__init__" p2) (e :: es) [] pos) X.env = (do
      let o9 ← eval (.Name x p1) X.env
      standAt p2.atName
      let (f9, r9) ← holding [o9] (getMethod o9 "__init__" pl)
      callWith pos f9 r9 (backTo pos (starEach (e :: es) X.env)) (backToKw pos (keywordEach [] X.env))) := by rfl)
    (he : starEach (e :: es) X.env = (false, eval e X.env) :: starEach es X.env := by rfl) (hpl : (backTo pos (starEach es X.env)).any (·.1) = false := by rfl) :
    PE X (.Call (.Attribute (.Name x p1) "__init__" p2) (e :: es) [] pos) (tVeI X.K ta) := by
  refine ⟨fun pins s σ H Q I h => PySem.W.methodCall_KW (ld_glob I hg T.g ?_ hdb) hc⟩
  refine PySem.W.method_cls I.kIn T.s (PySem.W.cls_value I.kIn T.r T.v (by decide +kernel) ?_)
  show wpAny (model X.prog X.w) X.A (callWith pos (Value.builtin "ValueError.__init__") [] (backTo pos (starEach (e :: es) X.env)) []) _ _ _
  refine PyProof.Rows.callWith_method1 (thn (ha.run pos pins _ σ H _ (I.tok _) h) fun us s1 hh => ?_) he hpl
  obtain ⟨vs, H1, J, r, a, C, ws, ev, hl, O, ea, q⟩ := hh
  subst ev
  cases r with
  | @cons _ u0 _ ur ra rr =>
    cases (show u0 = Value.ref a from ra)
    exact oinit_ok O J ea (by rw [← Paired.length rr]; exact Nat.le_trans hl (by decide)) fun s' J' => ⟨.non, H1, J', rfl, q⟩
end
/-- the promise of such an __init__ -/
def spExI (f : Str) (K : PySem.W.Frag) : Sp := fun vs H Q _ => ∃ (a C : Addr) (v : V), vs = [.ref a, v] ∧ OexC K C ∧ PySem.W.findIn K (.ref C) f = some none ∧ H a = some (exo a C none) ∧ FmtV v ∧
  ∀ dx, H dx = none → dx ≠ a → Q .non (upd (upd H dx (exd dx [(f, v)])) a (exo a C (some dx)))
/-- what the written part says of the class at C -/
structure ExInit (K : PySem.W.Frag) (mg : Str → Option Value) (x f : Str) (C : Addr) : Prop where
  g : mg x = some (.ref C)
  o : OexC K C
  n : PySem.W.findIn K (.ref C) f = some none
  c : ExcC K C
def OkI (P : Program) (w : World) (K : PySem.W.Frag) (mg : Str → Option Value) (base : Heap) (x f : Str) (C : Addr) : Prop :=
  ∃ (fI : Addr) (fd : FuncData), PySem.W.findIn K (.ref C) "__init__" = some (some (.ref fI)) ∧ PySem.W.typeIn K (.ref fI) = some (.type "function") ∧ FnOk P w K mg base CX0 1 fI fd ["self", f] (spExI f K) ∧ Binds K fd ["self", f] [] ∧ ExInit K mg x f C
/-- the def __init__ of the class at C -/
def DfI (K : PySem.W.Frag) (C : Addr) (q : Str) (st : Stmt) (f : Str) : Prop := ∃ (fI : Addr) (fd : FuncData), PySem.W.findIn K (.ref C) "__init__" = some (some (.ref fI)) ∧ PySem.W.typeIn K (.ref fI) = some (.type "function") ∧ Fun K "__init__" q st fI fd ∧ Binds K fd ["self", f] []
section
variable {X : Cx}
theorem pmk_i {k' : Nat} {x f : Str} {C : Addr} {e : Expr} {ta : TA} {p pos : Pos} (O : OkI X.prog X.w X.K X.mg X.base x f C) (hr : Room k' X.A) (ha : PA X [e] ta) (hk : 2 ≤ k' := by decide) (hg : Gl X x := by rfl) (hdb : (x == ("__debug__" : Str)) = false := by decide)
    (he : starEach [e] X.env = (false, eval e X.env) :: starEach [] X.env := by rfl) (hpl : (backTo pos (starEach [] X.env)).any (·.1) = false := by rfl) : PMk X (.Call (.Name x p) [e] [] pos) (tMkO C (spExI f X.K) [] ta) := by
  obtain ⟨fI, fd, h1, h2, F, b, T⟩ := O
  exact pmk_oex T.o h1 h2 F (hr.mono hk) b .nil pass0 hg T.g ha hdb he hpl
end
/-- making it, at its reading -/
theorem mkx {K : PySem.W.Frag} {mg : Str → Option Value} {x f : Str} {C : Addr} {H : Hp} {v : V} {Q : XK} (T : ExInit K mg x f C) (fv : FmtV v) (q : ∀ d, H d = none → Q (.ref C) (some d) (upd H d (.xd [(f, v)]))) :
    [v].length ≤ 1000 ∧ ∀ a, H a = none → spExI f K (.ref a :: ([v] ++ [])) (upd H a (exo a C none)) (fun u H2 => u = .non ∧ ∃ (d : Addr) (fs : List (Str × V)), H2 a = some (exo a C (some d)) ∧ H2 d = some (exd d fs) ∧ H d = none ∧ Q (.ref C) (some d) (upd (del H2 a) d (.xd fs))) (fun _ _ _ => False) := by
  refine ⟨(by decide : 1 ≤ 1000), fun a ha => ⟨a, C, v, rfl, T.o, T.n, upd_same, fv, fun dx hd ne => ⟨rfl, dx, [(f, v)], upd_same, ?_, ?_, ?_⟩⟩⟩
  · rw [upd_ne ne, upd_same]
  · rw [upd_ne ne] at hd
    exact hd
  · rw [upd_ne ne] at hd
    have e : upd (del (upd (upd (upd H a (exo a C none)) dx (exd dx [(f, v)])) a (exo a C (some dx))) a) dx (.xd [(f, v)]) = upd H dx (.xd [(f, v)]) := by
      funext b
      by_cases h1 : b = dx
      · subst h1
        rw [upd_same, upd_same]
      · rw [upd_ne h1, upd_ne h1]
        by_cases h2 : b = a
        · subst h2
          rw [del_same, ha]
        · rw [del_ne h2, upd_ne h2, upd_ne h1, upd_ne h2]
    rw [e]
    exact q dx hd
/-! ### a kept exception with a dict: isinstance, its field -/
/-- the exception of the class D at a, with its dict or without -/
def ExAt (H : Hp) (D a : Addr) : Prop := H a = some (ExK (.ref D) none a) ∨ ∃ (dd : Addr) (fs : List (Str × V)), H a = some (ExK (.ref D) (some dd) a) ∧ H dd = some (.xd fs)
section
variable {prog : Program} {w : World} {A : Around} {E : Value → Shared → Prop} {s : Shared} {K : PySem.W.Frag} {x D : Addr} {ox : Obj} {od : Option Obj}
open PySem.W in
theorem class_of_exc {Q : Option Value → Shared → Prop} (C : ExcC K D) (X : K.In s.heap) (I : InstAt s.heap x ox D od) (h : Q (some (.ref D)) { s with toks := s.toks + 1 }) : wpAny (model prog w) A (getAttr? (.ref x) "__class__") Q E s := by
  obtain ⟨cd, hc, _⟩ := any_some C.hd
  have found : findObj K D od "__class__" = some (.bind (.builtin "getset_descriptor.__get__") (.builtin "object.__class__")) := by
    unfold findObj
    rw [hc, Option.bind_some, C.ha, Option.bind_some]
    simp [C.hn, C.ht]
  obtain ⟨hp, g, d, t, os⟩ := s
  have M0 := I.type (M := model prog w)
  have no : (Value.builtin "BaseException.__getattribute__" == Value.builtin "object.__getattribute__") = false := by decide +kernel
  have isE : Looks (model prog w) hp (isInstance (.ref x) (.type "BaseException")) true := M0.andThen (looks_subIn X C.hs)
  unfold getAttr? getAttrBy? getAttrBy
  refine wpAny_bind (wpAny_mkText (wpAny_bind (wpAny_attempt (wpAny_holding (wpAny_bind (M0.at (wpAny_bind ((looks_findIn (M := model prog w) X C.hg).at ?_))))))))
  show wpAny (model prog w) _ (if (true && Value.builtin "BaseException.__getattribute__" == Value.builtin "object.__getattribute__") = true then _ else _) _ _ _
  rw [no, if_neg (by decide)]
  unfold getAttrByItsOwn hookBefore
  refine wpAny_bind ?_
  rw [if_pos (show onTheHeap (.ref D) = true from rfl)]
  refine (looks_findIn (M := model prog w) X C.hk).at (wpAny_bind (wpAny_attempt (wpAny_holding ?_)))
  unfold callGetattribute
  rw [if_neg (by decide)]
  unfold boundAndCalled
  rw [F.excAttr_ValueError.ga.bind (.ref x)]
  refine wpAny_bind (wpAny_pure ?_)
  show wpAny (model prog w) _ (call (.builtin "BaseException.__getattribute__") [.ref x, .str "__class__" t]) _ _ _
  refine wpAny_call (codeAny_call_builtin F.excAttr_ValueError.ga.plain F.entry_bexc_ga (@check_slot (model prog w) _ _ ⟨hp, g, d, t + 1, os⟩ "BaseException.__getattribute__" "BaseException" "__getattribute__" (.ref x) [.str "__class__" t] [] _ (by decide +kernel) (by decide +kernel) isE (F.args_bexc_ga (.ref x) (.str "__class__" t)) ?_))
  unfold Builtin.«object.__getattribute__»
  refine wpAny_bind (wpAny_of_eq (a := ((Value.ref x : Value), [Value.str "__class__" t])) (by first | (simp only [slotArgs]; rfl) | rfl) (wpAny_bind (wpAny_pure (wpAny_bind (M0.at (wpAny_bind ((looks_find (M := model prog w) X I found).at ?_)))))))
  show wpAny (model prog w) _ (holding [Value.builtin "object.__class__"] (call (.builtin "getset_descriptor.__get__") [.builtin "object.__class__", .ref x, .ref D]) >>= ret) _ _ _
  refine wpAny_bind (wpAny_holding (wpAny_call (class_get (s := ⟨hp, g, d, t + 1, os⟩) (ox := ox) (od := od) X I C.hm (wpAny_pure ?_))))
  show wpAny (model prog w) _ (handedOut (.ref D)) _ _ _
  rw [handedOut_of (v := .ref D) rfl]
  first
    | exact wpAny_pure (wpAny_pure h)
    | exact wpAny_pure h
    | exact wpAny_pure (wpAny_bind (wpAny_pure (wpAny_pure h)))
open PySem.W in
theorem kitx_own (C : ExcC K D) : KitX K (.ref x) (.ref D) (fun h => InstAt h x ox D od) := by
  have Z := handS_kitx_exc (x := x) (ox := ox) C.hg C.hk C.hs C.hd C.ha C.hn C.ht C.hm
  refine ⟨fun _ _ _ I => I.type, fun M h X _ => ?_, Z.ne, fun X I k => class_of_exc C X I k⟩
  obtain ⟨cd, hc, _⟩ := any_some C.hd
  unfold clsIn at hc
  split at hc
  · rename_i ho
    intro A' Q' E' s' k q
    unfold isType loadHead
    exact wpAny_bind (wpAny_loadPart (k _ _ (X _ _ ho)) (wpAny_pure q))
  · cases hc
end
def rIsY (K : PySem.W.Frag) : List V → Hp → VK → Prop := fun xs H Q => ∃ (a D : Addr) (c : V) (u : Value) (b : Bool), xs = [.ref a, c] ∧ ExAt H D a ∧ ExcC K D ∧ ClsV c u ∧ PySem.W.kitOne K (.ref D) u = some b ∧ Q (.bl b) H
def rIsYT (K : PySem.W.Frag) : List V → Hp → VK → Prop := fun xs H Q => ∃ (a D tp : Addr) (cs : List V) (us : List Value) (b : Bool), xs = [.ref a, .ref tp] ∧ ExAt H D a ∧ ExcC K D ∧ H tp = some (.tup cs) ∧ Paired ClsV cs us ∧ PySem.W.kitAny K (.ref D) us = some b ∧ Q (.bl b) H
section
variable {X : Cx} {pins : List (Addr × Obj)} {σ : L2.St} {H : Hp} {s : Shared}
theorem inst_of (I : Inv X pins σ H s) {D a : Addr} (h : ExAt H D a) : ∃ oe od, PySem.W.InstAt s.heap a oe D od := by
  rcases h with h | ⟨dd, fs, h, hd⟩
  · obtain ⟨⟨oe, vs, he, hz, hv⟩, _⟩ := I.hok a _ h
    exact ⟨oe, none, instAt_kept he hz hv⟩
  · obtain ⟨⟨oe, vs, he, hz, hv⟩, _⟩ := I.hok a _ h
    have hx : ObjOk X.prog X.w H s.heap dd (.xd fs) := I.hok dd _ hd
    obtain ⟨mA, hns, _⟩ := hx
    obtain ⟨od, ho, _⟩ := lookIn_ns hns
    exact ⟨oe, some od, he, hz.1, by unfold PySem.W.notCls; rw [hv] <;> rfl, by rw [hz.2]; exact ho⟩
end
section
variable {X : Cx} (K : PySem.W.Frag)
theorem call_isY_k (hk : X.K = K := by rfl) : CallR X (.builtin "isinstance") (rIsY K) := by
  subst hk
  intro pins s σ H xs us Q I r h
  obtain ⟨a, D, c, u, b, rfl, ha, C, k, e, q⟩ := h
  obtain ⟨u1, u2, rfl, r1, r2⟩ := vals2 r
  have e2 := k.eq r2
  subst e2
  cases r1
  obtain ⟨oe, od, J⟩ := inst_of I ha
  exact PySem.W.kia_one (kitx_own C) I.kIn J e (fun z => nomatch z) fun tk => ⟨.bl b, H, I.tok tk, rfl, q⟩
theorem call_isYT_k (hk : X.K = K := by rfl) : CallR X (.builtin "isinstance") (rIsYT K) := by
  subst hk
  intro pins s σ H xs us Q I r h
  obtain ⟨a, D, tp, cs, ws, b, rfl, ha, C, hT, k, e, q⟩ := h
  obtain ⟨u1, u2, rfl, r1, r2⟩ := vals2 r
  cases r1
  cases (show u2 = Value.ref tp from r2)
  obtain ⟨oe, od9, J⟩ := inst_of I ha
  obtain ⟨_, its, rv, o, h1, h2, n, h3⟩ := (show ObjOk X.prog X.w H s.heap tp (.tup cs) from I.hok tp _ hT)
  have e3 := ClsV.all k rv
  subst e3
  obtain ⟨oc, od, dt, sl⟩ := o
  simp only at h2 h3
  subst h2 h3
  exact PySem.W.kia_tup (kitx_own C) I.kIn J h1 e (fun z => nomatch z) fun tk => ⟨.bl b, H, I.tok tk, rfl, q⟩
/-- e.f, e a kept exception -/
def tXfK (K : PySem.W.Frag) (f : Str) (te : TE) : TE := fun σ H Q => te σ H fun x H1 => ∃ (a C dd : Addr) (fs : List (Str × V)) (v : V), x = .ref a ∧ H1 a = some (ExK (.ref C) (some dd) a) ∧ H1 dd = some (.xd fs) ∧ ExcC K C ∧ PySem.W.findIn K (.ref C) f = some none ∧ fs.lookup f = some v ∧ Q v H1
theorem pe_xfK {e : Expr} {te : TE} {pos : Pos} {f : Str} (he : PE X e te) (hk : X.K = K := by rfl) (hb : attributeBase e f X.env (eval e X.env) = eval e X.env := by rfl) : PE X (.Attribute e f pos) (tXfK K f te) := by
  subst hk
  refine ⟨fun pins s σ H Q I h => attr_of hb (thn (he.run pins s σ H _ I h) fun u s1 hh => ?_)⟩
  obtain ⟨x, H1, J, rx, a, C, dd, fs, v, ex, ea, ed, T, hno, l, q⟩ := hh
  subst ex
  cases (show u = Value.ref a from rx)
  obtain ⟨⟨oe, vs, hoe, hz, hv⟩, _⟩ := J.hok a _ ea
  have hx : ObjOk X.prog X.w H1 s1.heap dd (.xd fs) := J.hok dd _ ed
  obtain ⟨mA, hns, hr⟩ := hx
  obtain ⟨od, ho, hl⟩ := lookIn_ns hns
  obtain ⟨u, hu, ru⟩ := RelO.some_of (v := v) (o := mA f) (by rw [← l]; exact hr f)
  have Z : PySem.W.InstAt s1.heap a oe C (some od) := ⟨hoe, hz.1, by unfold PySem.W.notCls; rw [hv] <;> rfl, by rw [hz.2]; exact ho⟩
  exact HandSPX.exc_get J.kIn Z T.hg T.hk T.hs (PySem.W.findObj_own T.hd hno rfl (by rw [hl, hu])) (handed_of ru) ⟨v, H1, J.tok _, ru, q⟩
end
end Dear

namespace Dear
open PySem PySem.Spec PyProof.Rows L2
/-! ### data, and how the heap bears them -/
inductive D where
  | non | bl (b : Bool) | int (i : Int) | str (z : Str) | lst (ds : List D) | tup (ds : List D) | dct
def kind : D → String
  | .non => "NoneType" | .bl _ => "bool" | .int _ => "int" | .str _ => "str" | .lst _ => "list" | .tup _ => "tuple" | .dct => "dict"
mutual
inductive Dt (H : Hp) : V → D → Prop
  | non : Dt H .non .non
  | bl (b : Bool) : Dt H (.bl b) (.bl b)
  | int (i : Int) : Dt H (.int i) (.int i)
  | str (z : Str) : Dt H (.str z) (.str z)
  | lst {a : Addr} {xs : List V} {ds : List D} : H a = some (.lst xs) → DtAll H xs ds → Dt H (.ref a) (.lst ds)
  | tup {a : Addr} {xs : List V} {ds : List D} : H a = some (.tup xs) → DtAll H xs ds → Dt H (.ref a) (.tup ds)
  | dct {a : Addr} {kvs : List (Key × V)} : H a = some (.dK kvs) → Dt H (.ref a) .dct
inductive DtAll (H : Hp) : List V → List D → Prop
  | nil : DtAll H [] []
  | cons {v : V} {vs : List V} {d : D} {ds : List D} : Dt H v d → DtAll H vs ds → DtAll H (v :: vs) (d :: ds)
end
mutual
theorem Dt.same {H H' : Hp} (s : Same H H') : ∀ {v : V} {d : D}, Dt H v d → Dt H' v d
  | _, _, .non => .non
  | _, _, .bl b => .bl b
  | _, _, .int i => .int i
  | _, _, .str z => .str z
  | _, _, .lst h a => .lst (s _ _ h) (DtAll.same s a)
  | _, _, .tup h a => .tup (s _ _ h) (DtAll.same s a)
  | _, _, .dct h => .dct (s _ _ h)
theorem DtAll.same {H H' : Hp} (s : Same H H') : ∀ {vs : List V} {ds : List D}, DtAll H vs ds → DtAll H' vs ds
  | _, _, .nil => .nil
  | _, _, .cons a b => .cons (Dt.same s a) (DtAll.same s b)
end
theorem DtAll.length {H : Hp} : ∀ {vs : List V} {ds : List D}, DtAll H vs ds → vs.length = ds.length
  | _, _, .nil => rfl
  | _, _, .cons _ b => by rw [List.length_cons, List.length_cons, DtAll.length b]
theorem DtAll.get {H : Hp} : ∀ {vs : List V} {ds : List D} {i : Nat} {v : V}, DtAll H vs ds → vs[i]? = some v → ∃ d, ds[i]? = some d ∧ Dt H v d
  | _, _, _, _, .nil, e => by simp at e
  | _, _, 0, _, .cons a _, e => by
    simp at e
    subst e
    exact ⟨_, rfl, a⟩
  | _, _, i + 1, v, .cons _ b, e => by
    obtain ⟨d, h1, h2⟩ := DtAll.get (i := i) (v := v) b (by simpa using e)
    exact ⟨d, by simpa using h1, h2⟩
theorem DtAll.app {H : Hp} : ∀ {vs us : List V} {ds es : List D}, DtAll H vs ds → DtAll H us es → DtAll H (vs ++ us) (ds ++ es)
  | _, _, _, _, .nil, s => s
  | _, _, _, _, .cons a b, s => .cons a (DtAll.app b s)
theorem DtAll.map {α : Type} {H : Hp} {f : α → V} {g : α → D} (h : ∀ a, Dt H (f a) (g a)) : ∀ l : List α, DtAll H (l.map f) (l.map g)
  | [] => .nil
  | a :: l => .cons (h a) (DtAll.map h l)
theorem Dt.ty {K : PySem.W.Frag} {H : Hp} {v : V} {d : D} (h : Dt H v d) : TyX K H v (.type (kind d)) := by
  cases h with
  | non => exact .base .non
  | bl b => exact .base (.bl b)
  | int i => exact .base (.int i)
  | str z => exact .base (.str z)
  | lst h _ => exact .base (.lst h)
  | tup h _ => exact .base (.tup h)
  | dct h => exact .base (.dK h)
/-! ### a heap without one object -/
def Off (l : Addr) (H : Hp) : Hp := fun b => if b = l then none else H b
theorem Off.sub (l : Addr) (H : Hp) : Same (Off l H) H := fun b o e => by
  unfold Off at e
  by_cases h : b = l
  · rw [if_pos h] at e
    cases e
  · rw [if_neg h] at e
    exact e
theorem off_ne {l b : Addr} {H : Hp} (h : b ≠ l) : Off l H b = H b := if_neg h
theorem But.off {l : Addr} {H H' : Hp} (a : But l H H') : Same (Off l H) (Off l H') := fun b o e => by
  by_cases h : b = l
  · have z := (if_pos h).symm.trans e
    cases z
  · rw [off_ne h] at e ⊢
    exact a b o e h
theorem sOff {l : Addr} {H H' : Hp} (a : Same H H') : Same (Off l H) (Off l H') := (But.of a).off
theorem Dt.on {l : Addr} {H : Hp} {v : V} {d : D} (h : Dt (Off l H) v d) : Dt H v d := h.same (Off.sub l H)
/-! ### what a display makes -/
def Mk (l : Addr) (σ : L2.St) (t : TE) (H : Hp) (d : D) : Prop := ∀ H1, Same H H1 → ∀ Q : VK, (∀ v H2, Same H1 H2 → Dt (Off l H2) v d → Q v H2) → t σ H1 Q
def MkA (l : Addr) (σ : L2.St) (t : TA) (H : Hp) (ds : List D) : Prop := ∀ H1, Same H H1 → ∀ Q : List V → Hp → Prop, (∀ vs H2, Same H1 H2 → DtAll (Off l H2) vs ds → Q vs H2) → t σ H1 Q
section
variable {l : Addr} {σ : L2.St} {H : Hp}
theorem mk_c {v : V} {d : D} (h : Dt (Off l H) v d) : Mk l σ (tC v) H d := fun H1 s _ q => q v H1 (Same.refl _) (h.same (sOff s))
theorem mk_var {i : Nat} {v : V} {d : D} (e : σ[i]? = some (some v)) (h : Dt (Off l H) v d) : Mk l σ (tVar i) H d := fun H1 s _ q => ⟨v, e, q v H1 (Same.refl _) (h.same (sOff s))⟩
theorem mka_nil : MkA l σ tNil H [] := fun H1 _ _ q => q [] H1 (Same.refl _) .nil
theorem mka_cons {t : TE} {u : TA} {d : D} {ds : List D} (h1 : Mk l σ t H d) (h2 : MkA l σ u H ds) : MkA l σ (tCons t u) H (d :: ds) := fun H1 s Q q => by
  refine h1 H1 s _ fun v H2 s2 d2 => ?_
  refine h2 H2 (s.trans s2) _ fun vs H3 s3 d3 => ?_
  exact q (v :: vs) H3 (s2.trans s3) (.cons (d2.same (sOff s3)) d3)
theorem sz_lit {n : Nat} (h : n ≤ 1000) : n ≤ sizeLine := Nat.le_of_lt (small1000 h)
theorem mk_tup {u : TA} {ds : List D} (h : MkA l σ u H ds) {o : HO} (hl : H l = some o) (hz : Nat.ble ds.length 1000 = true := by rfl) : Mk l σ (tTup u) H (.tup ds) := fun H1 s Q q => by
  refine h H1 s _ fun vs H2 s2 d2 => ?_
  refine ⟨sz_lit (by rw [d2.length]; exact Nat.le_of_ble_eq_true hz), fun p hp => ?_⟩
  have ne : p ≠ l := fun e => by
    subst e
    rw [s2 _ _ (s _ _ hl)] at hp
    cases hp
  exact q (.ref p) _ (s2.trans (Same.upd hp)) (.tup (by rw [off_ne ne]; exact upd_same) (d2.same (sOff (Same.upd hp))))
theorem mk_lst {u : TA} {ds : List D} (h : MkA l σ u H ds) {o : HO} (hl : H l = some o) (hz : Nat.ble ds.length 1000 = true := by rfl) : Mk l σ (tLst u) H (.lst ds) := fun H1 s Q q => by
  refine h H1 s _ fun vs H2 s2 d2 => ?_
  refine ⟨sz_lit (by rw [d2.length]; exact Nat.le_of_ble_eq_true hz), fun p hp => ?_⟩
  have ne : p ≠ l := fun e => by
    subst e
    rw [s2 _ _ (s _ _ hl)] at hp
    cases hp
  exact q (.ref p) _ (s2.trans (Same.upd hp)) (.lst (by rw [off_ne ne]; exact upd_same) (d2.same (sOff (Same.upd hp))))
theorem mk_dnew {o : HO} (hl : H l = some o) : Mk l σ tDNewK H .dct := fun H1 s Q q p hp => by
  have ne : p ≠ l := fun e => by
    subst e
    rw [s _ _ hl] at hp
    cases hp
  exact q (.ref p) _ (Same.upd hp) (.dct (by rw [off_ne ne]; exact upd_same))
theorem mk_neg {i : Int} : Mk l σ (tUn (rU fun i => .int (-i)) (tC (.int i))) H (.int (-i)) := fun H1 _ _ q => ⟨i, rfl, q _ H1 (Same.refl _) (.int _)⟩
/-- {k: v} -/
theorem mk_disp1 {o : HO} {k : Int} {v : V} (hl : H l = some o) : Mk l σ (tDisp [(tC (.int k), tC v)]) H .dct := fun H1 s Q q p hp => by
  have ne : p ≠ l := fun e => by
    subst e
    rw [s _ _ hl] at hp
    cases hp
  refine ⟨upd_same, [(.inl k, v)], rfl, (by show 1 ≤ 15; decide), ?_⟩
  rw [upd_upd]
  exact q (.ref p) _ (Same.upd hp) (.dct (by rw [off_ne ne]; exact upd_same))
theorem Mk.go {t : TE} {d : D} (h : Mk l σ t H d) {Q : VK} (q : ∀ v H2, Same H H2 → Dt (Off l H2) v d → Q v H2) : t σ H Q := h H (Same.refl H) Q q
/-- xs + [..] -/
theorem mk_cat {t u : TE} {ds es : List D} (h1 : Mk l σ t H (.lst ds)) (h2 : Mk l σ u H (.lst es)) {o : HO} (hl : H l = some o) (hz : Nat.ble (ds.length + es.length) 1000 = true := by rfl) : Mk l σ (tOp rCat t u) H (.lst (ds ++ es)) := fun H1 s Q q => by
  refine h1 H1 s _ fun v H2 s2 d2 => ?_
  refine h2 H2 (s.trans s2) _ fun v3 H3 s3 d3 => ?_
  cases d2 with
  | lst ha2 hall2 =>
    cases d3 with
    | lst ha3 hall3 =>
      have ha2' := s3 _ _ (Off.sub _ _ _ _ ha2)
      have ha3' := Off.sub _ _ _ _ ha3
      refine ⟨_, _, _, _, rfl, rfl, ha2', ha3', sz_lit (by rw [hall2.length, hall3.length]; exact Nat.le_of_ble_eq_true hz), fun p hp => ?_⟩
      have ne : p ≠ l := fun e => by
        subst e
        rw [s3 _ _ (s2 _ _ (s _ _ hl))] at hp
        cases hp
      exact q (.ref p) _ ((s2.trans s3).trans (Same.upd hp)) (.lst (by rw [off_ne ne]; exact upd_same) (((hall2.same (sOff s3)).app hall3).same (sOff (Same.upd hp))))
end
/-! ### sizes of data -/
abbrev Asc (z : Str) : Prop := ∀ c ∈ z.cps.toList, c < 128
mutual
def Ok : D → Prop
  | .int i => i.natAbs < 2 ^ 300
  | .str z => z.length ≤ 3000 ∧ Asc z
  | .lst ds => OkAll ds
  | .tup ds => OkAll ds
  | _ => True
def OkAll : List D → Prop
  | [] => True
  | d :: ds => Ok d ∧ OkAll ds
end
theorem OkAll.mem : ∀ {ds : List D} {d : D}, OkAll ds → d ∈ ds → Ok d
  | [], _, _, m => by simp at m
  | e :: r, d, h, m => by
    rcases List.mem_cons.mp m with rfl | m
    · exact h.1
    · exact OkAll.mem h.2 m
/-- places of a list -/
theorem at_lt {α : Type} {xs : List α} {r : Int} (h0 : 0 ≤ r) (h1 : r < xs.length) : ∃ v, atI xs r = some v ∧ v ∈ xs ∧ xs[r.toNat]? = some v := by
  obtain ⟨n, rfl⟩ := Int.eq_ofNat_of_zero_le h0
  have hn : n < xs.length := by omega
  exact ⟨xs[n], atI_nat (by simp [hn]), List.getElem_mem hn, by simp [hn]⟩
/-! ### the law's draws -/
def Src (H : Hp) (l : Addr) : Prop := ∃ n s : Int, H l = some (.lst [.int n, .int s]) ∧ 0 ≤ n ∧ 0 ≤ s ∧ s < 2147483647
theorem Src.same {H H' : Hp} {l : Addr} (h : Src H l) (s : Same H H') : Src H' l := by
  obtain ⟨n, z, e, r⟩ := h
  exact ⟨n, z, s _ _ e, r⟩
theorem Src.some {H : Hp} {l : Addr} (h : Src H l) : ∃ o, H l = Option.some o := by
  obtain ⟨n, z, e, r⟩ := h
  exact ⟨_, e⟩
theorem Src.ne {H : Hp} {l p : Addr} (h : Src H l) (hp : H p = none) : p ≠ l := fun e => by
  obtain ⟨o, ho⟩ := h.some
  rw [e, ho] at hp
  cases hp
theorem bit_lt (k : Bool) : -(2 ^ 64) < (if k = true then 1 else 0 : Int) ∧ (if k = true then 1 else 0 : Int) < 2 ^ 64 := by
  cases k <;> decide
theorem bit_ge (k : Bool) : 0 ≤ (if k = true then 1 else 0 : Int) := by
  cases k <;> decide
def spSource : Sp := fun vs H Q _ => ∃ (c k : Int), vs = [.int c, .int k] ∧ ∀ (l : Addr) (H' : Hp), H l = none → Same H H' → Src H' l → Q (.ref l) H'
def spDraw : Sp := fun vs H Q _ => ∃ (l : Addr) (m : Int), vs = [.ref l, .int m] ∧ Src H l ∧ 0 < m ∧ m.natAbs.log2 < 9000 ∧ ∀ (r : Int) (H' : Hp), 0 ≤ r → r < m → But l H H' → Src H' l → Q (.int r) H'
theorem log_small {m : Int} {n : Nat} (h0 : 0 < n) (h : m.natAbs < 2 ^ n) (hn : n ≤ 9000) : m.natAbs.log2 < 9000 := Nat.lt_of_lt_of_le (PySem.Flt.log2_lt_of h0 h) hn
end Dear

namespace Dear
open PySem PySem.Spec PyProof.Rows L2
/-! ### kinds of things -/
def isInt : D → Bool
  | .int _ => true
  | _ => false
def isBl : D → Bool
  | .bl _ => true
  | _ => false
def isStr : D → Bool
  | .str _ => true
  | _ => false
def isLst : D → Bool
  | .lst _ => true
  | _ => false
def isTup : D → Bool
  | .tup _ => true
  | _ => false
def isDct : D → Bool
  | .dct => true
  | _ => false
theorem kd_int : ∀ d : D, kitB (kind d) "int" = some (isInt d || isBl d)
  | .non => (by decide +kernel : kitB "NoneType" "int" = some false)
  | .bl _ => (by decide +kernel : kitB "bool" "int" = some true)
  | .int _ => (by decide +kernel : kitB "int" "int" = some true)
  | .str _ => (by decide +kernel : kitB "str" "int" = some false)
  | .lst _ => (by decide +kernel : kitB "list" "int" = some false)
  | .tup _ => (by decide +kernel : kitB "tuple" "int" = some false)
  | .dct => (by decide +kernel : kitB "dict" "int" = some false)
theorem kd_bool : ∀ d : D, kitB (kind d) "bool" = some (isBl d)
  | .non => (by decide +kernel : kitB "NoneType" "bool" = some false)
  | .bl _ => (by decide +kernel : kitB "bool" "bool" = some true)
  | .int _ => (by decide +kernel : kitB "int" "bool" = some false)
  | .str _ => (by decide +kernel : kitB "str" "bool" = some false)
  | .lst _ => (by decide +kernel : kitB "list" "bool" = some false)
  | .tup _ => (by decide +kernel : kitB "tuple" "bool" = some false)
  | .dct => (by decide +kernel : kitB "dict" "bool" = some false)
theorem kd_str : ∀ d : D, kitB (kind d) "str" = some (isStr d)
  | .non => (by decide +kernel : kitB "NoneType" "str" = some false)
  | .bl _ => (by decide +kernel : kitB "bool" "str" = some false)
  | .int _ => (by decide +kernel : kitB "int" "str" = some false)
  | .str _ => (by decide +kernel : kitB "str" "str" = some true)
  | .lst _ => (by decide +kernel : kitB "list" "str" = some false)
  | .tup _ => (by decide +kernel : kitB "tuple" "str" = some false)
  | .dct => (by decide +kernel : kitB "dict" "str" = some false)
theorem kd_list : ∀ d : D, kitB (kind d) "list" = some (isLst d)
  | .non => (by decide +kernel : kitB "NoneType" "list" = some false)
  | .bl _ => (by decide +kernel : kitB "bool" "list" = some false)
  | .int _ => (by decide +kernel : kitB "int" "list" = some false)
  | .str _ => (by decide +kernel : kitB "str" "list" = some false)
  | .lst _ => (by decide +kernel : kitB "list" "list" = some true)
  | .tup _ => (by decide +kernel : kitB "tuple" "list" = some false)
  | .dct => (by decide +kernel : kitB "dict" "list" = some false)
theorem kd_tuple : ∀ d : D, kitB (kind d) "tuple" = some (isTup d)
  | .non => (by decide +kernel : kitB "NoneType" "tuple" = some false)
  | .bl _ => (by decide +kernel : kitB "bool" "tuple" = some false)
  | .int _ => (by decide +kernel : kitB "int" "tuple" = some false)
  | .str _ => (by decide +kernel : kitB "str" "tuple" = some false)
  | .lst _ => (by decide +kernel : kitB "list" "tuple" = some false)
  | .tup _ => (by decide +kernel : kitB "tuple" "tuple" = some true)
  | .dct => (by decide +kernel : kitB "dict" "tuple" = some false)
theorem kd_dict : ∀ d : D, kitB (kind d) "dict" = some (isDct d)
  | .non => (by decide +kernel : kitB "NoneType" "dict" = some false)
  | .bl _ => (by decide +kernel : kitB "bool" "dict" = some false)
  | .int _ => (by decide +kernel : kitB "int" "dict" = some false)
  | .str _ => (by decide +kernel : kitB "str" "dict" = some false)
  | .lst _ => (by decide +kernel : kitB "list" "dict" = some false)
  | .tup _ => (by decide +kernel : kitB "tuple" "dict" = some false)
  | .dct => (by decide +kernel : kitB "dict" "dict" = some true)
/-! ### is_whole, divisor, lowest, is_fraction, is_name -/
def spWhole : Sp := fun vs H Q _ => ∃ (v : V) (d : D), vs = [v] ∧ Dt H v d ∧ Q (.bl (isInt d)) H
def spDivisor : Sp := fun vs H Q _ => ∃ (a b : Int), vs = [.int a, .int b] ∧ 0 ≤ a ∧ 0 ≤ b ∧ Q (.int (Int.gcd a b)) H
/-- in lowest terms -/
def lowT (t b : Int) : Int := t / (Int.gcd b t : Int)
def lowB (t b : Int) : Int := b / (Int.gcd b t : Int)
def spLowest : Sp := fun vs H Q _ => ∃ (t b : Int), vs = [.int t, .int b] ∧ 0 < b ∧ b.natAbs.log2 < 9000 ∧ ∀ (p : Addr) (H' : Hp), H p = none → Same H H' → H' p = some (.tup [.int (lowT t b), .int (lowB t b)]) → Q (.ref p) H'
def isFr : D → Bool
  | .tup [.int t, .int b] => decide (0 < b) && (Int.gcd b t == 1)
  | _ => false
theorem isFr_len : ∀ {ds : List D}, ds.length ≠ 2 → isFr (.tup ds) = false
  | [], _ => rfl
  | [d], _ => by cases d <;> rfl
  | [_, _], h => absurd rfl h
  | d :: e :: _ :: _, _ => by cases d <;> cases e <;> rfl
def spFr : Sp := fun vs H Q _ => ∃ (v : V) (d : D), vs = [v] ∧ Dt H v d ∧ Ok d ∧ ∀ H', Same H H' → Q (.bl (isFr d)) H'
def letters : Str := "abcdefghijklmnopqrstuvwxyz"
def isNm : D → Bool
  | .str z => decide (1 ≤ z.length ∧ z.length ≤ 8) && z.cps.toList.all fun c => decide (c ∈ letters.cps.toList)
  | _ => false
def spNm : Sp := fun vs H Q _ => ∃ (v : V) (d : D), vs = [v] ∧ Dt H v d ∧ Ok d ∧ ∀ H', Same H H' → Q (.bl (isNm d)) H'
theorem gcd_step {a b : Int} (h0 : 0 ≤ a) (h : 0 < b) : Int.gcd b (a % b) = Int.gcd a b := by
  obtain ⟨m, rfl⟩ := Int.eq_ofNat_of_zero_le h0
  obtain ⟨n, rfl⟩ := Int.eq_ofNat_of_zero_le (Int.le_of_lt h)
  show Nat.gcd n (((m : Int) % (n : Int)).natAbs) = Nat.gcd m n
  rw [← Int.natCast_emod, Int.natAbs_natCast, Nat.gcd_comm n, ← Nat.gcd_rec, Nat.gcd_comm]
theorem abs_if (t : Int) : (if t < 0 then -t else t) = (t.natAbs : Int) := by
  split <;> omega
theorem gcd_abs (b t : Int) : Int.gcd b (t.natAbs : Int) = Int.gcd b t := by
  show Nat.gcd b.natAbs ((t.natAbs : Int).natAbs) = Nat.gcd b.natAbs t.natAbs
  rw [Int.natAbs_natCast]
theorem gcd_pos {b : Int} (t : Int) (h : 0 < b) : 0 < (Int.gcd b t : Int) := by
  have h1 : 0 < Int.gcd b t := Nat.gcd_pos_of_pos_left _ (by omega)
  omega
theorem gcd_le {b : Int} (t : Int) (h : 0 < b) : (Int.gcd b t : Int) ≤ b := by
  have h1 : Int.gcd b t ≤ b.natAbs := Nat.le_of_dvd (by omega) (Nat.gcd_dvd_left _ _)
  omega
theorem gcd_log {b : Int} (t : Int) (h : 0 < b) (hl : b.natAbs.log2 < 9000) : ((Int.gcd b t : Nat) : Int).natAbs.log2 < 9000 := by
  have h1 := gcd_le t h
  have h2 : b.natAbs < 2 ^ 9000 := Nat.lt_of_lt_of_le Nat.lt_log2_self (Nat.pow_le_pow_right (by decide) hl)
  have h3 : ((Int.gcd b t : Nat) : Int).natAbs < 2 ^ 9000 := Nat.lt_of_le_of_lt (by omega) h2
  exact PySem.Flt.log2_lt_of (by decide) h3
/-- a fraction is in lowest terms just where it is what lowest makes of it -/
theorem low_eq {t b : Int} (h : 0 < b) : ((lowT t b == t) && (lowB t b == b)) = (Int.gcd b t == 1) := by
  have g0 := gcd_pos t h
  by_cases e : Int.gcd b t = 1
  · have e1 : lowT t b = t := by unfold lowT; rw [e]; exact Int.ediv_one t
    have e2 : lowB t b = b := by unfold lowB; rw [e]; exact Int.ediv_one b
    rw [e1, e2, e]
    simp
  · have e3 : lowB t b ≠ b := by
      unfold lowB
      have g2 : (Int.gcd b t : Int) ≠ 1 := by omega
      have := Int.ediv_lt_self_of_pos_of_ne_one h g2
      omega
    have e4 : (lowB t b == b) = false := by simpa using e3
    have e5 : (Int.gcd b t == 1) = false := by simpa using e
    rw [e4, e5, Bool.and_false]
/-! ### texts -/
theorem in_letters_asc {c : Nat} (h : c ∈ letters.cps.toList) : c < 128 := by
  have : ∀ c ∈ letters.cps.toList, c < 128 := by decide +kernel
  exact this c h
end Dear

namespace Dear
open PySem PySem.Spec PyProof.Rows L2
/-! ### texts and lists of texts -/
theorem join_tl (ys : List Str) : (Txt.join "" ys).cps.toList = (ys.map fun y => y.cps.toList).flatten := by
  rw [TL.join_eq]
  have e := TL.tl_join ("" : Str) ys
  have e0 : TL.tl ("" : Str) = [] := by decide +kernel
  rw [e0] at e
  have g : ∀ l : List (List Nat), TL.joinL [] l = l.flatten := by
    intro l
    induction l with
    | nil => rfl
    | cons a r ih =>
      cases r with
      | nil => simp [TL.joinL]
      | cons b r =>
        rw [List.flatten_cons, ← ih]
        simp [TL.joinL]
  rw [g] at e
  exact e
/-- texts of one sign each -/
def Ones (ys : List Str) : Prop := ∀ y ∈ ys, y.length = 1 ∧ Asc y
theorem ones_join {ys : List Str} (h : Ones ys) : (Txt.join "" ys).length = ys.length ∧ Asc (Txt.join "" ys) := by
  constructor
  · rw [TL.len_tl, TL.tl, join_tl]
    induction ys with
    | nil => rfl
    | cons a r ih =>
      rw [List.map_cons, List.flatten_cons, List.length_append, ih fun y hy => h y (List.mem_cons_of_mem _ hy), List.length_cons]
      have h1 := (h a List.mem_cons_self).1
      rw [TL.len_tl] at h1
      have h2 : a.cps.toList.length = 1 := h1
      show a.cps.toList.length + r.length = r.length + 1
      omega
  · intro c hc
    rw [join_tl] at hc
    obtain ⟨l, hl, hc⟩ := List.mem_flatten.mp hc
    obtain ⟨y, hy, rfl⟩ := List.mem_map.mp hl
    exact (h y hy).2 c hc
theorem ones_size {ys : List Str} (h : Ones ys) (hl : ys.length ≤ 1000) : (ys.map (·.length)).sum + ys.length * ("" : Str).length ≤ 16777216 := by
  have e : (ys.map (·.length)).sum = ys.length := by
    clear hl
    induction ys with
    | nil => rfl
    | cons a r ih =>
      rw [List.map_cons, List.sum_cons, ih fun y hy => h y (List.mem_cons_of_mem _ hy), (h a List.mem_cons_self).1, List.length_cons]
      omega
  have e0 : ("" : Str).length = 0 := by decide +kernel
  rw [e, e0]
  omega
theorem dp_strs {K : PySem.W.Frag} {H : Hp} : ∀ ys : List Str, DpAll K H (ys.map V.str) (ys.map PyData.str)
  | [] => .nil
  | y :: ys => .cons (.str y) (dp_strs ys)
theorem strOk_asc {z : Str} (h : Asc z) : PyData.strOk z = true := by
  unfold PyData.strOk
  rw [Array.all_eq_true']
  intro c hc
  have := h c (by simpa using hc)
  simp
  omega
theorem depth_strs : ∀ ys : List Str, PyData.depthAll (ys.map PyData.str) = 0
  | [] => rfl
  | y :: ys => by
    rw [List.map_cons]
    show max (PyData.depth (.str y)) (PyData.depthAll (ys.map PyData.str)) = 0
    rw [depth_strs ys]
    rfl
theorem lay_strs : ∀ {ys : List Str}, (∀ y ∈ ys, Asc y) → PyData.canLayAll0 (ys.map PyData.str) = true
  | [], _ => rfl
  | y :: ys, h => by
    rw [List.map_cons]
    show (PyData.canLay0 (.str y) && PyData.canLayAll0 (ys.map PyData.str)) = true
    rw [lay_strs fun z hz => h z (List.mem_cons_of_mem _ hz), Bool.and_true]
    exact strOk_asc (h y List.mem_cons_self)
theorem shaped_strs {ys : List Str} (h : ∀ y ∈ ys, Asc y) : SeqAt.shaped (.list (ys.map PyData.str)) = true := by
  show (PyData.canLayAll0 (ys.map PyData.str) && decide (PyData.depthAll (ys.map PyData.str) + 1 ≤ 64)) = true
  rw [lay_strs h, depth_strs]
  rfl
theorem shaped_nil : SeqAt.shaped (.list []) = true := by decide +kernel
theorem eqv_nil : ∀ ds : List PyData, PyData.eqv (.list ds) (.list []) = ds.isEmpty
  | [] => by simp [PyData.eqv, PyData.eqvAll]
  | _ :: _ => by simp [PyData.eqv, PyData.eqvAll]
theorem all_empty {α β : Type} (l : List α) (p : α → Bool) (f : α → β) : l.all p = ((l.filter fun c => !p c).map f).isEmpty := by
  induction l with
  | nil => rfl
  | cons a r ih =>
    rw [List.all_cons, ih, List.filter_cons]
    cases p a <;> simp
theorem asc_one {c : Nat} (h : c < 128) : Asc ⟨#[c]⟩ := fun x hx => by
  have : x = c := by simpa using hx
  omega
theorem ixN_lt {n : Nat} {r : Int} (h0 : 0 ≤ r) (h1 : r < n) : ixN n r = some r.toNat := by
  unfold ixN
  rw [if_pos h0, if_pos h1]
theorem off_some {l p : Addr} {H : Hp} {o : HO} (h : Off l H p = some o) : p ≠ l ∧ H p = some o := by
  have ne : p ≠ l := fun e => by
    have z := (if_pos e).symm.trans h
    cases z
  rw [off_ne ne] at h
  exact ⟨ne, h⟩
theorem mem_cut {xs : List V} {lo hi : Option Int} {v : V} (h : v ∈ cutV xs lo hi) : v ∈ xs := List.mem_of_mem_drop (List.mem_of_mem_take h)
theorem get_ints {ns : List Int} {xs : List V} (h : ∀ v ∈ xs, v ∈ ns.map V.int) {i : Nat} {v : V} (e : xs[i]? = some v) : ∃ z, v = .int z ∧ z ∈ ns := by
  have := h v (List.mem_of_getElem? e)
  obtain ⟨z, hz, rfl⟩ := List.mem_map.mp this
  exact ⟨z, rfl, hz⟩
/-- one of a list that was made -/
theorem pick {l : Addr} {H H1 : Hp} {p : Addr} {ds : List D} (h : Dt (Off l H) (.ref p) (.lst ds)) (ok : OkAll ds) (B : But l H H1) {r : Int} (r0 : 0 ≤ r) (r1 : r < ds.length) :
    ∃ (xs : List V) (v : V) (d : D), H1 p = some (.lst xs) ∧ atI xs r = some v ∧ Dt (Off l H1) v d ∧ Ok d ∧ d ∈ ds := by
  cases h with
  | lst ha hall =>
    rename_i xs
    obtain ⟨ne, hp⟩ := off_some ha
    obtain ⟨v, hv, _, hr⟩ := at_lt (xs := xs) r0 (by rw [hall.length]; exact r1)
    obtain ⟨d, hd, h⟩ := hall.get hr
    have hm := List.mem_of_getElem? hd
    exact ⟨xs, v, d, B _ _ hp ne, hv, h.same B.off, ok.mem hm, hm⟩
theorem But.same0 {l : Addr} {H H1 H2 : Hp} (s : Same H H1) (h : H l = none) (B : But l H1 H2) : Same H H2 := fun c o e => B c o (s c o e) (ne_of_none e h)
theorem log_le {m : Int} (n : Nat) (h : m.natAbs ≤ n) (hn : n < 2 ^ 40 := by decide) : m.natAbs.log2 < 9000 := log_small (n := 40) (by decide) (Nat.lt_of_le_of_lt h hn) (by decide)
end Dear

namespace Dear
open PySem PySem.Spec PyProof.Rows L2
/-! ### list(text), tuple(text) -/
def sgnsV (z : Str) : List V := z.cps.toList.map fun c => V.str ⟨#[c]⟩
theorem valsAt : ∀ {xs : List V} {us : List Value}, xs.length = us.length → (∀ (j : Nat) (x : V) (u : Value), xs[j]? = some x → us[j]? = some u → RelV x u) → Vals xs us
  | [], [], _, _ => .nil
  | [], _ :: _, h, _ => by simp at h
  | _ :: _, [], h, _ => by simp at h
  | x :: xs, u :: us, h, f => .cons (f 0 x u rfl rfl) (valsAt (by simpa using h) fun j y w h1 h2 => f (j + 1) y w (by simpa using h1) (by simpa using h2))
theorem vals_signs {z : Str} {acc : Array Value} (h : ItemsOf (SignAt z) acc z.cps.size) : Vals (sgnsV z) acc.toList := by
  have el : acc.toList.length = z.cps.size := by rw [Array.length_toList]; exact h.1
  refine valsAt (by unfold sgnsV; rw [List.length_map, el, Array.length_toList]) fun j x u h1 h2 => ?_
  obtain ⟨c, t, e1, e2⟩ := h.2 j u (by rw [← h2, Array.getElem?_toList])
  unfold sgnsV at h1
  rw [List.getElem?_map, Array.getElem?_toList, e1] at h1
  cases h1
  exact ⟨t, e2⟩
section
variable {X : Cx}
def rListTx : List V → Hp → VK → Prop := fun xs H Q => ∃ z, xs = [.str z] ∧ z.length ≤ 1000 ∧ ∀ l, H l = none → Q (.ref l) (upd H l (.lst (sgnsV z)))
def rTupTx : List V → Hp → VK → Prop := fun xs H Q => ∃ z, xs = [.str z] ∧ z.length ≤ 1000 ∧ ∀ l, H l = none → Q (.ref l) (upd H l (.tup (sgnsV z)))
theorem call_list_tx (hc : X.calm = true) : CallR X (.type "list") rListTx := by
  intro pins s σ H xs us Q I r h
  obtain ⟨z, e, hz, q⟩ := h
  subst e
  obtain ⟨u, eu, t, rfl⟩ := vals1 r
  subst eu
  have hz' : z.cps.size ≤ sizeLine := sz_lit hz
  refine call_list_str (hn := hz') (I.ok.hd hc) z t fun h' tk acc c' hk e' hi => ?_
  refine ⟨.ref s.heap.objs.size, upd H s.heap.objs.size (.lst (sgnsV z)), I.laid hk (Nat.le_refl _) (show ObjOk X.prog X.w _ _ _ (.lst (sgnsV z)) from ⟨?_, acc.toList, c', vals_signs hi, ?_⟩), rfl, q _ (I.hok.fresh (Nat.le_refl _))⟩
  · unfold sgnsV
    rw [List.length_map, Array.length_toList]
    exact hz'
  · rw [Array.toArray_toList]; exact e'
theorem call_tuple_tx (hc : X.calm = true) : CallR X (.type "tuple") rTupTx := by
  intro pins s σ H xs us Q I r h
  obtain ⟨z, e, hz, q⟩ := h
  subst e
  obtain ⟨u, eu, t, rfl⟩ := vals1 r
  subst eu
  have hz' : z.cps.size ≤ sizeLine := sz_lit hz
  refine call_tuple_str (hsz := hz') (I.ok.hd hc) z t fun h' tk acc hk hi => ?_
  have I2 : Inv X pins σ H { s with heap := h', toks := tk } := I.kept hk
  refine ⟨.ref h'.objs.size, upd H h'.objs.size (.tup (sgnsV z)), I2.laid (t' := tk) (fun c o e => Heap.get?_push_of_some _ e) (Nat.le_refl _) (show ObjOk X.prog X.w _ _ _ (.tup (sgnsV z)) from ⟨?_, acc.toList, vals_signs hi, ?_⟩), rfl, q _ (I2.hok.fresh (Nat.le_refl _))⟩
  · unfold sgnsV
    rw [List.length_map, Array.length_toList]
    exact hz'
  · rw [Array.toArray_toList]; exact IsTup.new _ _
end
section
variable {l : Addr} {σ : L2.St} {H : Hp}
theorem dt_signs {H : Hp} : ∀ cs : List Nat, DtAll H (cs.map fun c => V.str ⟨#[c]⟩) (cs.map fun c => D.str ⟨#[c]⟩)
  | [] => .nil
  | c :: cs => .cons (.str _) (dt_signs cs)
theorem mk_ltx {i : Nat} {z : Str} {o : HO} (e : σ[i]? = some (some (.str z))) (hz : z.length ≤ 1000) (hl : H l = some o) : Mk l σ (tCB rListTx (tCons (tVar i) tNil)) H (.lst (z.cps.toList.map fun c => D.str ⟨#[c]⟩)) := fun H1 s Q q => by
  refine ⟨_, e, z, rfl, hz, fun p hp => ?_⟩
  have ne : p ≠ l := fun e => by
    subst e
    rw [s _ _ hl] at hp
    cases hp
  exact q (.ref p) _ (Same.upd hp) (.lst (by rw [off_ne ne]; exact upd_same) (dt_signs _))
theorem mk_ttx {i : Nat} {z : Str} {o : HO} (e : σ[i]? = some (some (.str z))) (hz : z.length ≤ 1000) (hl : H l = some o) : Mk l σ (tCB rTupTx (tCons (tVar i) tNil)) H (.tup (z.cps.toList.map fun c => D.str ⟨#[c]⟩)) := fun H1 s Q q => by
  refine ⟨_, e, z, rfl, hz, fun p hp => ?_⟩
  have ne : p ≠ l := fun e => by
    subst e
    rw [s _ _ hl] at hp
    cases hp
  exact q (.ref p) _ (Same.upd hp) (.tup (by rw [off_ne ne]; exact upd_same) (dt_signs _))
end
end Dear

namespace Dear
open PySem PySem.Spec PyProof.Rows L2
/-- law's: a list of at most 63 ints is handed in, True comes out -/
def spLaw (K : PySem.W.Frag) : Sp := fun vs H Q _ => ∃ (a : Addr) (ns : List Int), vs = [.ref a] ∧ SqL K H a (ns.map V.int) ∧ ns.length ≤ 63 ∧ ∀ H', Q (.bl true) H'
end Dear

namespace Dear
open PySem PySem.Spec PyProof.Rows L2
/-! ### slices of texts -/
def sgn (c : Nat) : Str := ⟨#[c]⟩
theorem str_one {z : Str} (h : z.length = 1) : ∃ c, z = ⟨#[c]⟩ := by
  obtain ⟨⟨l⟩⟩ := z
  match l, h with
  | [c], _ => exact ⟨c, rfl⟩
theorem inV_strs (z : Str) : ∀ ys : List Str, inV (.str z) (ys.map V.str) = decide (z ∈ ys)
  | [] => by simp [inV]
  | y :: ys => by
    have ih := inV_strs z ys
    unfold inV at ih ⊢
    rw [List.map_cons, List.any_cons, ih]
    by_cases e : y = z
    · subst e
      simp [eqV]
    · have e' : ¬ z = y := fun q => e q.symm
      have h1 : eqV (.str y) (.str z) = false := by simp [eqV, e]
      simp [h1, e']
theorem flat_str (ys : List Str) : (ys.map V.str).all flatV = true := by
  rw [List.all_eq_true]
  intro x hx
  obtain ⟨y, _, rfl⟩ := List.mem_map.mp hx
  rfl
theorem sgn_inj {a b : Nat} (h : sgn a = sgn b) : a = b := by
  have := congrArg (fun z : Str => z.cps.toList) h
  simpa [sgn] using this
/-- the text of these code points -/
def txt (l : List Nat) : Str := ⟨l.toArray⟩
theorem txt_list (l : List Nat) : (txt l).cps.toList = l := List.toList_toArray ..
theorem txt_length (l : List Nat) : (txt l).length = l.length := List.size_toArray ..
theorem txt_of (z : Str) : z = txt z.cps.toList := by
  cases z
  rfl
theorem str_len (a b : Str) : (a ++ b).length = a.length + b.length := by
  show (a.cps ++ b.cps).size = _
  exact Array.size_append
theorem txt_inj {a b : List Nat} (h : txt a = txt b) : a = b := by
  have := congrArg (fun z : Str => z.cps.toList) h
  simpa [txt_list] using this
theorem txt_app (a b : List Nat) : txt a ++ txt b = txt (a ++ b) := by
  show (⟨a.toArray ++ b.toArray⟩ : Str) = ⟨(a ++ b).toArray⟩
  simp
theorem cut_txt (l : List Nat) (lo hi : Option Int) : cutS (txt l) lo hi = txt ((l.drop (HT.sIx l.length 0 lo)).take (HT.sIx l.length l.length hi - HT.sIx l.length 0 lo)) := by
  unfold cutS
  rw [txt_list, txt_length]
  rfl
theorem cut_pre (l : List Nat) (j : Nat) : cutS (txt l) none (some (j : Int)) = txt (l.take j) := by
  rw [cut_txt, HT.sIx_none, HT.sIx_nat, List.drop_zero, Nat.sub_zero]
  congr 1
  by_cases h : j ≤ l.length
  · rw [Nat.min_eq_left h]
  · rw [Nat.min_eq_right (by omega), List.take_length, List.take_of_length_le (by omega)]
theorem cut_from (l : List Nat) (j : Nat) : cutS (txt l) (some (j : Int)) none = txt (l.drop j) := by
  rw [cut_txt, HT.sIx_none, HT.sIx_nat]
  congr 1
  by_cases h : j ≤ l.length
  · rw [Nat.min_eq_left h, List.take_of_length_le (by rw [List.length_drop]; exact Nat.le_refl _)]
  · rw [Nat.min_eq_right (by omega), List.drop_length, List.drop_of_length_le (by omega), List.take_nil]
theorem cut_last0 : cutS (txt []) (some (-1)) none = "" := by decide +kernel
theorem cut_last (l : List Nat) (c : Nat) : cutS (txt (l ++ [c])) (some (-1)) none = txt [c] := by
  rw [cut_txt, HT.sIx_none]
  have e1 : HT.sIx (l ++ [c]).length 0 (some (-1)) = l.length := by
    show (if (-1 : Int) < 0 then (-1 + ((l ++ [c]).length : Int)).toNat else min (-1 : Int).toNat (l ++ [c]).length) = l.length
    rw [if_pos (by decide), List.length_append]
    show (-1 + ((l.length + 1 : Nat) : Int)).toNat = _
    omega
  rw [e1, List.drop_left, List.take_of_length_le]
  rw [List.length_append]
  show 1 ≤ l.length + 1 - l.length
  omega
theorem cut_init {l : List Nat} {e : Nat} : cutS (txt (l ++ [e])) none (some (-1)) = txt l := by
  have e1 : HT.sIx (l ++ [e]).length (l ++ [e]).length (some (-1)) = l.length := by
    show (if (-1 : Int) < 0 then (-1 + ((l ++ [e]).length : Int)).toNat else min (-1 : Int).toNat (l ++ [e]).length) = l.length
    rw [if_pos (by decide), List.length_append]
    show (-1 + ((l.length + 1 : Nat) : Int)).toNat = _
    omega
  rw [cut_txt, HT.sIx_none, e1, List.drop_zero, Nat.sub_zero, List.take_left]
theorem at_last {l : List Nat} {e : Nat} : atI (txt (l ++ [e])).cps.toList (-1) = some e := by
  rw [txt_list]
  unfold atI ixN
  rw [if_neg (by decide), if_pos (by rw [List.length_append]; show -((l.length + 1 : Nat) : Int) ≤ -1; omega)]
  have e1 : (-1 + ((l ++ [e]).length : Int)).toNat = l.length := by
    rw [List.length_append]
    show (-1 + ((l.length + 1 : Nat) : Int)).toNat = _
    omega
  rw [e1]
  show (l ++ [e])[l.length]? = some e
  rw [List.getElem?_append_right (Nat.le_refl _), Nat.sub_self]
  rfl
theorem sgn_txt (c : Nat) : sgn c = txt [c] := rfl
theorem txt_snoc (l : List Nat) (c : Nat) : txt l ++ sgn c = txt (l ++ [c]) := by
  show (⟨l.toArray ++ #[c]⟩ : Str) = ⟨(l ++ [c]).toArray⟩
  simp
/-- the sign ahead of the j-th one -/
def aheadOf (l : List Nat) (j : Nat) : Str := cutS (cutS (txt l) none (some (j : Int))) (some (-1)) none
theorem ahead_zero (l : List Nat) : aheadOf l 0 = "" := by
  unfold aheadOf
  rw [cut_pre, List.take_zero]
  exact cut_last0
theorem ahead_succ {l : List Nat} {j : Nat} {c : Nat} (h : l[j]? = some c) : aheadOf l (j + 1) = txt [c] := by
  unfold aheadOf
  rw [cut_pre, List.take_add_one, h, Option.toList_some, cut_last]
end Dear

namespace Dear
open PySem PySem.Spec PyProof.Rows L2
/-! ### data of tuples alone: they stay whatever lists are changed -/
mutual
def Pu : D → Prop
  | .lst _ => False
  | .dct => False
  | .tup ds => PuAll ds
  | _ => True
def PuAll : List D → Prop
  | [] => True
  | d :: ds => Pu d ∧ PuAll ds
end
def TP (H H' : Hp) : Prop := ∀ b xs, H b = some (.tup xs) → H' b = some (.tup xs)
theorem TP.refl (H : Hp) : TP H H := fun _ _ h => h
theorem TP.trans {H H1 H2 : Hp} (a : TP H H1) (b : TP H1 H2) : TP H H2 := fun c xs h => b c xs (a c xs h)
theorem TP.same {H H' : Hp} (s : Same H H') : TP H H' := fun b xs h => s b _ h
theorem TP.but {l : Addr} {H H' : Hp} (s : But l H H') {xs : List V} (hl : H l = some (.lst xs)) : TP H H' := fun b ys h => s b _ h (ne_of h hl (by intro z; cases z))
theorem TP.src {l : Addr} {H H' : Hp} (s : But l H H') (hl : Src H l) : TP H H' := by
  obtain ⟨n, z, e, _⟩ := hl
  exact TP.but s e
theorem TP.upd {H : Hp} {p : Addr} {xs : List V} {o : HO} (h : H p = some (.lst xs)) : TP H (L2.upd H p o) := fun b ys e => by
  rw [upd_ne (ne_of e h (by intro z; cases z))]
  exact e
mutual
theorem Dt.tp {H H' : Hp} (t : TP H H') : ∀ {v : V} {d : D}, Pu d → Dt H v d → Dt H' v d
  | _, _, _, .non => .non
  | _, _, _, .bl b => .bl b
  | _, _, _, .int i => .int i
  | _, _, _, .str z => .str z
  | _, _, p, .lst _ _ => p.elim
  | _, _, p, .tup h a => .tup (t _ _ h) (DtAll.tp t p a)
  | _, _, p, .dct _ => p.elim
theorem DtAll.tp {H H' : Hp} (t : TP H H') : ∀ {vs : List V} {ds : List D}, PuAll ds → DtAll H vs ds → DtAll H' vs ds
  | _, _, _, .nil => .nil
  | _, _, p, .cons a b => .cons (Dt.tp t p.1 a) (DtAll.tp t p.2 b)
end
theorem PuAll.app : ∀ {ds es : List D}, PuAll ds → PuAll es → PuAll (ds ++ es)
  | [], _, _, h => h
  | _ :: _, _, a, h => ⟨a.1, PuAll.app a.2 h⟩
theorem OkAll.app : ∀ {ds es : List D}, OkAll ds → OkAll es → OkAll (ds ++ es)
  | [], _, _, h => h
  | _ :: _, _, a, h => ⟨a.1, OkAll.app a.2 h⟩
theorem DtAll.strs {H : Hp} : ∀ {xs : List V} {pre : List Str}, DtAll H xs (pre.map D.str) → xs = pre.map V.str
  | _, [], .nil => rfl
  | _, _ :: _, .cons (.str z) t => by
    rw [DtAll.strs t]
    rfl
theorem DtAll.take {H : Hp} : ∀ {xs : List V} {ds : List D} (n : Nat), DtAll H xs ds → DtAll H (xs.take n) (ds.take n)
  | _, _, 0, _ => .nil
  | _, _, _ + 1, .nil => .nil
  | _, _, n + 1, .cons a b => .cons a (DtAll.take n b)
theorem drop_get {α : Type} {l : List α} {i : Nat} {x : α} (h : l[i]? = some x) : l.drop i = x :: l.drop (i + 1) := by
  obtain ⟨h1, h2⟩ := List.getElem?_eq_some_iff.mp h
  rw [List.drop_eq_getElem_cons h1, h2]
theorem take_more {α : Type} {l : List α} {i : Nat} {x : α} (h : l[i]? = some x) : l.take (i + 1) = l.take i ++ [x] := by
  rw [List.take_succ, h]
  rfl
end Dear

namespace Dear
open PySem PySem.Spec PyProof.Rows L2
/-! ### data as the library's, for == -/
mutual
def py : D → PyData
  | .non => .none
  | .bl b => .bool b
  | .int i => .int i
  | .str z => .str z
  | .lst ds => .list (pyAll ds)
  | .tup ds => .tuple (pyAll ds)
  | .dct => .none
def pyAll : List D → List PyData
  | [] => []
  | d :: ds => py d :: pyAll ds
end
mutual
def NoD : D → Prop
  | .dct => False
  | .lst ds => NoDAll ds
  | .tup ds => NoDAll ds
  | _ => True
def NoDAll : List D → Prop
  | [] => True
  | d :: ds => NoD d ∧ NoDAll ds
end
mutual
theorem Dt.dp {K : PySem.W.Frag} {H : Hp} : ∀ {v : V} {d : D}, NoD d → Dt H v d → Dp K H v (py d)
  | _, _, _, .non => .non
  | _, _, _, .bl b => .bl b
  | _, _, _, .int i => .int i
  | _, _, _, .str z => .str z
  | _, _, n, .lst h a => .lst (SqL.of h) (DtAll.dp n a)
  | _, _, n, .tup h a => .tup (SqT.of h) (DtAll.dp n a)
  | _, _, n, .dct _ => n.elim
theorem DtAll.dp {K : PySem.W.Frag} {H : Hp} : ∀ {vs : List V} {ds : List D}, NoDAll ds → DtAll H vs ds → DpAll K H vs (pyAll ds)
  | _, _, _, .nil => .nil
  | _, _, n, .cons a b => .cons (Dt.dp n.1 a) (DtAll.dp n.2 b)
end
mutual
theorem lay_py : ∀ {d : D}, Ok d → NoD d → PyData.canLay0 (py d) = true
  | .non, _, _ => rfl
  | .bl _, _, _ => rfl
  | .int _, _, _ => rfl
  | .str _, o, _ => strOk_asc o.2
  | .lst _, o, n => layAll_py o n
  | .tup _, o, n => layAll_py o n
  | .dct, _, n => n.elim
theorem layAll_py : ∀ {ds : List D}, OkAll ds → NoDAll ds → PyData.canLayAll0 (pyAll ds) = true
  | [], _, _ => rfl
  | d :: ds, o, n => by
    show (PyData.canLay0 (py d) && PyData.canLayAll0 (pyAll ds)) = true
    rw [lay_py o.1 n.1, layAll_py o.2 n.2]
    rfl
end
/-! how deep -/
mutual
def dep : D → Nat
  | .lst ds => depAll ds + 1
  | .tup ds => depAll ds + 1
  | _ => 0
def depAll : List D → Nat
  | [] => 0
  | d :: ds => max (dep d) (depAll ds)
end
mutual
theorem dep_py : ∀ d : D, PyData.depth (py d) = dep d
  | .non => rfl
  | .bl _ => rfl
  | .int _ => rfl
  | .str _ => rfl
  | .lst ds => congrArg (· + 1) (depAll_py ds)
  | .tup ds => congrArg (· + 1) (depAll_py ds)
  | .dct => rfl
theorem depAll_py : ∀ ds : List D, PyData.depthAll (pyAll ds) = depAll ds
  | [] => rfl
  | d :: ds => by
    show max (PyData.depth (py d)) (PyData.depthAll (pyAll ds)) = max (dep d) (depAll ds)
    rw [dep_py d, depAll_py ds]
end
theorem shaped_py {d : D} (o : Ok d) (n : NoD d) (h : dep d ≤ 64) : SeqAt.shaped (py d) = true := by
  show (PyData.canLay0 (py d) && decide (PyData.depth (py d) ≤ 64)) = true
  rw [lay_py o n, dep_py, decide_eq_true h]
  rfl
theorem depAll_le : ∀ {ds : List D} {n : Nat}, (∀ d ∈ ds, dep d ≤ n) → depAll ds ≤ n
  | [], _, _ => Nat.zero_le _
  | d :: ds, n, h => Nat.max_le.mpr ⟨h d List.mem_cons_self, depAll_le fun x hx => h x (List.mem_cons_of_mem _ hx)⟩
theorem noAll_of : ∀ {ds : List D}, (∀ d ∈ ds, NoD d) → NoDAll ds
  | [], _ => trivial
  | d :: ds, h => ⟨h d List.mem_cons_self, noAll_of fun x hx => h x (List.mem_cons_of_mem _ hx)⟩
theorem strs_flat (zs : List Str) : (∀ d ∈ zs.map D.str, dep d ≤ 0) ∧ ∀ d ∈ zs.map D.str, NoD d := by
  constructor <;> intro d hd <;> obtain ⟨z, _, rfl⟩ := List.mem_map.mp hd
  · exact Nat.le_refl _
  · trivial
theorem eqv_same {d : PyData} (h : SeqAt.shaped d = true) : PyData.eqv d d = true := SeqAt.eqv_refl _ (SeqAt.canLay_of_shaped h)
end Dear

namespace Dear
open PySem PySem.Spec PyProof.Rows L2
/-! ### text * number -/
theorem fold_rep (a : Array Nat) : ∀ (k : Nat) (acc : Array Nat), ((List.replicate k a).foldl (· ++ ·) acc).toList = acc.toList ++ (List.replicate k a.toList).flatten
  | 0, acc => by simp
  | k + 1, acc => by
    rw [List.replicate_succ, List.replicate_succ, List.foldl_cons, fold_rep a k, List.flatten_cons, Array.toList_append, List.append_assoc]
def repT (l : List Nat) (k : Nat) : List Nat := (List.replicate k l).flatten
theorem repT_len (l : List Nat) (k : Nat) : (repT l k).length = k * l.length := by
  unfold repT
  simp
def rRepS : R2 := fun x y H Q => ∃ (l : List Nat) (n : Int), x = .str (txt l) ∧ y = .int n ∧ 0 ≤ n ∧ n ≤ 1000 ∧ l.length ≤ 1000 ∧ Q (.str (txt (repT l n.toNat))) H
theorem op_repS {X : Cx} : OpR X (binaryOp .Mult) rRepS := by
  intro pins s σ H x y v u Q I rx ry h
  obtain ⟨l, n, rfl, rfl, h0, h1, hl, q⟩ := h
  obtain ⟨t, rfl⟩ := rx
  obtain ⟨t', rfl⟩ := ry
  have ln := txt_length l
  have big : l.length * n.toNat ≤ 1000 * 1000 := Nat.mul_le_mul hl (by omega)
  refine PySem.P.mul_str (x := txt l) (by rw [decide_eq_false (by omega), decide_eq_false (by omega)]; rfl) (fun h2 _ => ?_) (fun _ _ => ?_) ?_
  · have h3 : 0 < n := by omega
    have h4 : ((txt l).length : Int) ≤ (2 ^ 63 - 1) / n := by
      rw [Int.le_ediv_iff_mul_le h3, ln]
      have e : ((l.length * n.toNat : Nat) : Int) = (l.length : Int) * n := by
        rw [Int.natCast_mul, Int.toNat_of_nonneg h0]
      rw [← e]
      omega
    omega
  · unfold Builtin.Str.tooLong
    rw [ln]
    refine decide_eq_false ?_
    have := sz_lit (n := 0) (by decide)
    rw [sizeLine_eq]
    omega
  · by_cases e1 : n < 1
    · rw [if_pos e1]
      have e2 : n = 0 := by omega
      subst e2
      exact ⟨by decide, .str (txt (repT l 0)), H, I.tok _, ⟨_, rfl⟩, q⟩
    · rw [if_neg e1]
      by_cases e2 : (n == 1 || (txt l).length == 0) = true
      · rw [if_pos e2]
        have e3 : repT l n.toNat = l := by
          rw [ln] at e2
          simp only [Bool.or_eq_true, beq_iff_eq] at e2
          rcases e2 with e2 | e2
          · subst e2
            simp [repT]
          · have e3 : l = [] := List.length_eq_zero_iff.mp e2
            subst e3
            simp [repT]
        rw [e3] at q
        exact ⟨.str (txt l), H, I, ⟨_, rfl⟩, q⟩
      · rw [if_neg e2]
        have e3 : (⟨(List.replicate n.toNat (txt l).cps).foldl (· ++ ·) #[]⟩ : Str) = txt (repT l n.toNat) := by
          rw [txt_of ⟨(List.replicate n.toNat (txt l).cps).foldl (· ++ ·) #[]⟩]
          congr 1
          show ((List.replicate n.toNat (txt l).cps).foldl (· ++ ·) #[]).toList = _
          rw [fold_rep, txt_list]
          rfl
        rw [e3]
        refine ⟨?_, .str (txt (repT l n.toNat)), H, I.tok _, ⟨_, rfl⟩, q⟩
        rw [txt_length, repT_len, Nat.mul_comm, sizeLine_eq]
        omega
end Dear

namespace Dear
open PySem PySem.Spec PyProof.Rows L2
/-! ### names and wants as author B's laws draw them -/
def letN (i : Nat) : Nat := letters.cps.toList.getD i 0
def sufL (a : Nat) : List Nat := if a / 26 = 0 then [] else if a / 26 = 1 then [97] else [122, 122]
def tellL (a : Nat) : List Nat := letN (a % 26) :: sufL a
def moreL (s : Nat) : List Nat := repT [letN (s % 26)] (s / 26 % 6)
def nameL (k s : Nat) : List Nat := if s % 2 = 0 then moreL s ++ tellL ((37 * k + s) % 61) else tellL ((37 * k + s) % 61) ++ moreL s
theorem letN_at {i : Nat} (h : i < 26) : letters.cps.toList[i]? = some (letN i) := by
  have hl : i < letters.cps.toList.length := by
    rw [show letters.cps.toList.length = 26 from by decide +kernel]
    exact h
  unfold letN
  rw [List.getD_eq_getElem?_getD, List.getElem?_eq_getElem hl]
  rfl
theorem letN_mem {i : Nat} (h : i < 26) : letN i ∈ letters.cps.toList := List.mem_of_getElem? (letN_at h)
theorem letN_atI {i : Nat} (h : i < 26) : atI letters.cps.toList (i : Int) = some (letN i) := atI_nat (letN_at h)
theorem suf_mem (a : Nat) : ∀ c ∈ sufL a, c ∈ letters.cps.toList := by
  unfold sufL
  split
  · exact fun _ h => nomatch h
  · split
    · decide +kernel
    · decide +kernel
theorem suf_len (a : Nat) : (sufL a).length ≤ 2 := by
  unfold sufL
  split
  · decide
  · split <;> decide
theorem tell_inj : ∀ a < 61, ∀ b < 61, tellL a = tellL b → a = b := by decide +kernel
theorem name_of (k s : Nat) : (∀ c ∈ nameL k s, c ∈ letters.cps.toList) ∧ 1 ≤ (nameL k s).length ∧ (nameL k s).length ≤ 8 := by
  have m1 : ∀ c ∈ moreL s, c ∈ letters.cps.toList := fun c hc => by
    unfold moreL repT at hc
    obtain ⟨l, hl, hc⟩ := List.mem_flatten.mp hc
    have := List.eq_of_mem_replicate hl
    subst this
    have : c = letN (s % 26) := by simpa using hc
    subst this
    exact letN_mem (Nat.mod_lt _ (by decide))
  have m2 : (moreL s).length ≤ 5 := by
    unfold moreL
    rw [repT_len]
    show s / 26 % 6 * 1 ≤ 5
    omega
  have t1 : ∀ a, ∀ c ∈ tellL a, c ∈ letters.cps.toList := fun a c hc => by
    rcases List.mem_cons.mp hc with rfl | hc
    · exact letN_mem (Nat.mod_lt _ (by decide))
    · exact suf_mem a c hc
  have t2 : ∀ a, (tellL a).length = (sufL a).length + 1 := fun _ => rfl
  have t3 := suf_len ((37 * k + s) % 61)
  have t4 := t2 ((37 * k + s) % 61)
  unfold nameL
  split
  · refine ⟨fun c hc => ?_, ?_, ?_⟩
    · rcases List.mem_append.mp hc with hc | hc
      · exact m1 c hc
      · exact t1 _ c hc
    · rw [List.length_append]; omega
    · rw [List.length_append]; omega
  · refine ⟨fun c hc => ?_, ?_, ?_⟩
    · rcases List.mem_append.mp hc with hc | hc
      · exact t1 _ c hc
      · exact m1 c hc
    · rw [List.length_append]; omega
    · rw [List.length_append]; omega
theorem name_inj {s i j : Nat} (hi : i < 61) (hj : j < 61) (h : nameL i s = nameL j s) : i = j := by
  have e : tellL ((37 * i + s) % 61) = tellL ((37 * j + s) % 61) := by
    unfold nameL at h
    split at h
    · exact List.append_cancel_left h
    · exact List.append_cancel_right h
  have := tell_inj _ (Nat.mod_lt _ (by decide)) _ (Nat.mod_lt _ (by decide)) e
  omega
/-! ### wants -/
def wantD (w : List Nat × Int) : D := .tup [.str (txt w.1), .int w.2]
structure WOk (w : List Nat × Int) : Prop where
  l : ∀ c ∈ w.1, c ∈ letters.cps.toList
  n1 : 1 ≤ w.1.length
  n8 : w.1.length ≤ 8
  c0 : 0 ≤ w.2
  c9 : w.2 ≤ 1000000000
structure WsOk (ws : List (List Nat × Int)) : Prop where
  all : ∀ w ∈ ws, WOk w
  nd : (ws.map Prod.fst).Nodup
theorem names_nodup (s n : Nat) (h : n ≤ 61) : ((List.range n).map fun k => nameL k s).Nodup := by
  rw [List.nodup_iff_pairwise_ne, List.pairwise_map]
  refine List.Pairwise.imp_of_mem ?_ (List.nodup_iff_pairwise_ne.mp List.nodup_range)
  intro a b ha hb hne e
  exact hne (name_inj (by have := List.mem_range.mp ha; omega) (by have := List.mem_range.mp hb; omega) e)
def isWant : D → Bool
  | .tup [a, .int c] => isNm a && decide (0 ≤ c ∧ c ≤ 1000000000)
  | _ => false
def nameD : D → Str
  | .tup (.str z :: _) => z
  | _ => ""
/-- the first that can't stand -/
def badAt (i : Nat) : List Str → List D → Option V
  | _, [] => none
  | seen, d :: r => if isWant d && !decide (nameD d ∈ seen) then badAt (i + 1) (seen ++ [nameD d]) r else some (.int (i : Nat))
def wantsBad : D → Option V
  | .lst ds => if 1 ≤ ds.length ∧ ds.length ≤ 20 then badAt 0 [] ds else some .non
  | _ => some .non
theorem nm_txt {l : List Nat} (h : ∀ c ∈ l, c ∈ letters.cps.toList) (h1 : 1 ≤ l.length) (h8 : l.length ≤ 8) : isNm (.str (txt l)) = true := by
  show (decide (1 ≤ (txt l).length ∧ (txt l).length ≤ 8) && (txt l).cps.toList.all fun c => decide (c ∈ letters.cps.toList)) = true
  rw [txt_length, txt_list, decide_eq_true ⟨h1, h8⟩, Bool.true_and, List.all_eq_true]
  exact fun c hc => decide_eq_true (h c hc)
theorem WOk.is {w : List Nat × Int} (h : WOk w) : isWant (wantD w) = true := by
  show (isNm (.str (txt w.1)) && decide (0 ≤ w.2 ∧ w.2 ≤ 1000000000)) = true
  rw [nm_txt h.l h.n1 h.n8, decide_eq_true ⟨h.c0, h.c9⟩]
  rfl
theorem bad_none : ∀ {ws : List (List Nat × Int)} {seen : List (List Nat)} {i : Nat}, (∀ w ∈ ws, WOk w) → (seen ++ ws.map Prod.fst).Nodup → badAt i (seen.map txt) (ws.map wantD) = none
  | [], _, _, _, _ => rfl
  | w :: ws, seen, i, h, nd => by
    have h1 := (h w List.mem_cons_self).is
    have h2 : ¬ txt w.1 ∈ seen.map txt := fun q => by
      obtain ⟨l, hl, e⟩ := List.mem_map.mp q
      have e := txt_inj e
      subst e
      exact (List.nodup_append.mp nd).2.2 _ hl _ (List.mem_cons_self ..) rfl
    show (if isWant (wantD w) && !decide (txt w.1 ∈ seen.map txt) then badAt (i + 1) (seen.map txt ++ [txt w.1]) (ws.map wantD) else _) = none
    rw [h1, decide_eq_false h2, if_pos (by rfl)]
    have := bad_none (ws := ws) (seen := seen ++ [w.1]) (i := i + 1) (fun x hx => h x (List.mem_cons_of_mem _ hx)) (by rw [List.append_assoc]; exact nd)
    rw [List.map_append] at this
    exact this
theorem wants_good {ws : List (List Nat × Int)} (h : WsOk ws) (h1 : 1 ≤ ws.length) (h2 : ws.length ≤ 20) : wantsBad (.lst (ws.map wantD)) = none := by
  show (if 1 ≤ (ws.map wantD).length ∧ (ws.map wantD).length ≤ 20 then badAt 0 [] (ws.map wantD) else some .non) = none
  rw [List.length_map, if_pos ⟨h1, h2⟩]
  exact bad_none (seen := []) h.all h.nd
theorem WOk.facts {w : List Nat × Int} (h : WOk w) : Ok (wantD w) ∧ NoD (wantD w) ∧ dep (wantD w) ≤ 1 := by
  refine ⟨⟨⟨?_, fun c hc => ?_⟩, ?_, trivial⟩, ⟨trivial, trivial, trivial⟩, Nat.le_refl _⟩
  · rw [txt_length]
    have := h.n8
    omega
  · rw [txt_list] at hc
    exact in_letters_asc (h.l c hc)
  · have h1 := h.c0
    have h2 := h.c9
    exact Nat.lt_of_lt_of_le (show w.2.natAbs < 2 ^ 40 by omega) (Nat.pow_le_pow_right (by decide) (by decide))
theorem wants_facts {ws : List (List Nat × Int)} (h : ∀ w ∈ ws, WOk w) : Ok (.lst (ws.map wantD)) ∧ NoD (.lst (ws.map wantD)) ∧ dep (.lst (ws.map wantD)) ≤ 64 := by
  refine ⟨?_, ?_, ?_⟩
  · show OkAll (ws.map wantD)
    induction ws with
    | nil => trivial
    | cons w r ih => exact ⟨(h w List.mem_cons_self).facts.1, ih fun x hx => h x (List.mem_cons_of_mem _ hx)⟩
  · refine noAll_of fun d hd => ?_
    obtain ⟨w, hw, rfl⟩ := List.mem_map.mp hd
    exact (h w hw).facts.2.1
  · have := depAll_le (ds := ws.map wantD) (n := 1) fun d hd => by
      obtain ⟨w, hw, rfl⟩ := List.mem_map.mp hd
      exact (h w hw).facts.2.2
    show depAll (ws.map wantD) + 1 ≤ 64
    omega
end Dear

namespace Dear
open PySem PySem.Spec PyProof.Rows L2
/-! ### what a display makes, of new objects alone -/
def New (H0 H : Hp) : Hp := fun b => if (H0 b).isSome then none else H b
theorem new_at {H0 H : Hp} {b : Addr} (h : H0 b = none) : New H0 H b = H b := by
  unfold New
  rw [h]
  rfl
theorem new_some {H0 H : Hp} {b : Addr} {o : HO} (h : New H0 H b = some o) : H0 b = none ∧ H b = some o := by
  unfold New at h
  cases e : H0 b with
  | none =>
    rw [e] at h
    exact ⟨rfl, h⟩
  | some u =>
    rw [e] at h
    cases h
theorem New.sub (H0 H : Hp) : Same (New H0 H) H := fun _ _ e => (new_some e).2
theorem New.mono {H0 H H' : Hp} (s : Same H H') : Same (New H0 H) (New H0 H') := fun b o e => by
  obtain ⟨h1, h2⟩ := new_some e
  rw [new_at h1]
  exact s _ _ h2
theorem New.but {H0 H H' : Hp} {l : Addr} {o : HO} (hl : H0 l = some o) (s : But l H H') : Same (New H0 H) (New H0 H') := fun b o e => by
  obtain ⟨h1, h2⟩ := new_some e
  rw [new_at h1]
  exact s _ _ h2 fun z => by
    rw [z, hl] at h1
    cases h1
theorem New.off {H0 H : Hp} {l : Addr} {o : HO} (hl : H0 l = some o) : Same (New H0 H) (Off l H) := fun b o e => by
  obtain ⟨h1, h2⟩ := new_some e
  rw [off_ne fun z => by
    rw [z, hl] at h1
    cases h1]
  exact h2
/-- one base heap in the other's place -/
theorem New.base {H0 H1 H : Hp} (s : Same H0 H1) : Same (New H1 H) (New H0 H) := fun b o e => by
  obtain ⟨h1, h2⟩ := new_some e
  rw [new_at]
  · exact h2
  · cases q : H0 b with
    | none => rfl
    | some u =>
      rw [s _ _ q] at h1
      cases h1
theorem same_none {H0 H1 : Hp} {p : Addr} (s : Same H0 H1) (h : H1 p = none) : H0 p = none := by
  cases q : H0 p with
  | none => rfl
  | some u =>
    rw [s _ _ q] at h
    cases h
def MkN (σ : L2.St) (t : TE) (H : Hp) (d : D) : Prop := ∀ H1, Same H H1 → ∀ Q : VK, (∀ v H2, Same H1 H2 → Dt (New H H2) v d → Q v H2) → t σ H1 Q
def MkNA (σ : L2.St) (t : TA) (H : Hp) (ds : List D) : Prop := ∀ H1, Same H H1 → ∀ Q : List V → Hp → Prop, (∀ vs H2, Same H1 H2 → DtAll (New H H2) vs ds → Q vs H2) → t σ H1 Q
section
variable {σ : L2.St} {H : Hp}
theorem mkn_c {v : V} {d : D} (h : ∀ H', Dt H' v d) : MkN σ (tC v) H d := fun H1 _ _ q => q v H1 (Same.refl _) (h _)
theorem mkn_var {i : Nat} {v : V} {d : D} (e : σ[i]? = some (some v)) (h : ∀ H', Dt H' v d) : MkN σ (tVar i) H d := fun H1 _ _ q => ⟨v, e, q v H1 (Same.refl _) (h _)⟩
/-- a number, reckoned -/
theorem mkn_i {t : TE} {i : Int} (h : ∀ (H1 : Hp) (Q : VK), Q (.int i) H1 → t σ H1 Q) : MkN σ t H (.int i) := fun H1 _ Q q => h H1 Q (q _ H1 (Same.refl _) (.int i))
theorem mkna_nil : MkNA σ tNil H [] := fun H1 _ _ q => q [] H1 (Same.refl _) .nil
theorem mkna_cons {t : TE} {u : TA} {d : D} {ds : List D} (h1 : MkN σ t H d) (h2 : MkNA σ u H ds) : MkNA σ (tCons t u) H (d :: ds) := fun H1 s Q q => by
  refine h1 H1 s _ fun v H2 s2 d2 => ?_
  refine h2 H2 (s.trans s2) _ fun vs H3 s3 d3 => ?_
  exact q (v :: vs) H3 (s2.trans s3) (.cons (d2.same (New.mono s3)) d3)
theorem mkn_tup {u : TA} {ds : List D} (h : MkNA σ u H ds) (hz : Nat.ble ds.length 1000 = true := by rfl) : MkN σ (tTup u) H (.tup ds) := fun H1 s Q q => by
  refine h H1 s _ fun vs H2 s2 d2 => ?_
  refine ⟨sz_lit (by rw [d2.length]; exact Nat.le_of_ble_eq_true hz), fun p hp => ?_⟩
  exact q (.ref p) _ (s2.trans (Same.upd hp)) (.tup (by rw [new_at (same_none (s.trans s2) hp)]; exact upd_same) (d2.same (New.mono (Same.upd hp))))
theorem mkn_lst {u : TA} {ds : List D} (h : MkNA σ u H ds) (hz : Nat.ble ds.length 1000 = true := by rfl) : MkN σ (tLst u) H (.lst ds) := fun H1 s Q q => by
  refine h H1 s _ fun vs H2 s2 d2 => ?_
  refine ⟨sz_lit (by rw [d2.length]; exact Nat.le_of_ble_eq_true hz), fun p hp => ?_⟩
  exact q (.ref p) _ (s2.trans (Same.upd hp)) (.lst (by rw [new_at (same_none (s.trans s2) hp)]; exact upd_same) (d2.same (New.mono (Same.upd hp))))
theorem mkn_dnew : MkN σ tDNewK H .dct := fun H1 s Q q p hp => q (.ref p) _ (Same.upd hp) (.dct (by rw [new_at (same_none s hp)]; exact upd_same))
theorem mkn_neg {i : Int} : MkN σ (tUn (rU fun i => .int (-i)) (tC (.int i))) H (.int (-i)) := fun H1 _ _ q => ⟨i, rfl, q _ H1 (Same.refl _) (.int _)⟩
theorem MkN.go {t : TE} {d : D} (h : MkN σ t H d) {Q : VK} (q : ∀ v H2, Same H H2 → Dt (New H H2) v d → Q v H2) : t σ H Q := h H (Same.refl H) Q q
theorem MkNA.go {t : TA} {ds : List D} (h : MkNA σ t H ds) {Q : List V → Hp → Prop} (q : ∀ vs H2, Same H H2 → DtAll (New H H2) vs ds → Q vs H2) : t σ H Q := h H (Same.refl H) Q q
end
section
variable {σ : L2.St} {H : Hp}
theorem s_tup {u : TA} {Q : VK} (h : u σ H fun vs H' => vs.length ≤ sizeLine ∧ ∀ p, H' p = none → Q (.ref p) (upd H' p (.tup vs))) : tTup u σ H Q := h
theorem s_lst {u : TA} {Q : VK} (h : u σ H fun vs H' => vs.length ≤ sizeLine ∧ ∀ p, H' p = none → Q (.ref p) (upd H' p (.lst vs))) : tLst u σ H Q := h
theorem s_cons {t : TE} {u : TA} {Q : List V → Hp → Prop} (h : t σ H fun v H1 => u σ H1 fun vs H2 => Q (v :: vs) H2) : tCons t u σ H Q := h
end
/-! data that avoid l and avoid q avoid both -/
mutual
theorem Dt.off2 {H : Hp} {l q : Addr} : ∀ {v : V} {d : D}, Dt (Off l H) v d → Dt (Off q H) v d → Dt (Off q (Off l H)) v d
  | _, _, .non, _ => .non
  | _, _, .bl b, _ => .bl b
  | _, _, .int i, _ => .int i
  | _, _, .str z, _ => .str z
  | _, _, .lst h1 a1, .lst h2 a2 => by
    obtain ⟨n1, e1⟩ := off_some h1
    obtain ⟨n2, e2⟩ := off_some h2
    rw [e1] at e2
    cases e2
    exact .lst (by rw [off_ne n2, off_ne n1]; exact e1) (DtAll.off2 a1 a2)
  | _, _, .tup h1 a1, .tup h2 a2 => by
    obtain ⟨n1, e1⟩ := off_some h1
    obtain ⟨n2, e2⟩ := off_some h2
    rw [e1] at e2
    cases e2
    exact .tup (by rw [off_ne n2, off_ne n1]; exact e1) (DtAll.off2 a1 a2)
  | _, _, .dct h1, .dct h2 => by
    obtain ⟨n1, e1⟩ := off_some h1
    obtain ⟨n2, e2⟩ := off_some h2
    exact .dct (by rw [off_ne n2, off_ne n1]; exact e1)
theorem DtAll.off2 {H : Hp} {l q : Addr} : ∀ {vs : List V} {ds : List D}, DtAll (Off l H) vs ds → DtAll (Off q H) vs ds → DtAll (Off q (Off l H)) vs ds
  | _, _, .nil, _ => .nil
  | _, _, .cons a b, .cons c d => .cons (Dt.off2 a c) (DtAll.off2 b d)
end
theorem TP.off {H : Hp} {l : Addr} {xs : List V} (h : H l = some (.lst xs)) : TP H (Off l H) := fun b ys e => by
  rw [off_ne (ne_of e h (by intro z; cases z))]
  exact e
theorem lt300 {n : Nat} (h : n < 2 ^ 200) : n < 2 ^ 300 := Nat.lt_of_lt_of_le h (Nat.pow_le_pow_right (by decide) (by decide))
theorem cutV_pre (l : List V) (j : Nat) : cutV l none (some (j : Int)) = l.take j := by
  unfold cutV
  rw [HT.sIx_none, HT.sIx_nat, List.drop_zero, Nat.sub_zero]
  by_cases h : j ≤ l.length
  · rw [Nat.min_eq_left h]
  · rw [Nat.min_eq_right (by omega), List.take_length, List.take_of_length_le (by omega)]
theorem cutV_from (l : List V) (j : Nat) : cutV l (some (j : Int)) none = l.drop j := by
  unfold cutV
  rw [HT.sIx_none, HT.sIx_nat]
  by_cases h : j ≤ l.length
  · rw [Nat.min_eq_left h, List.take_of_length_le (by rw [List.length_drop]; exact Nat.le_refl _)]
  · rw [Nat.min_eq_right (by omega), List.drop_length, List.drop_of_length_le (by omega), List.take_nil]
theorem DtAll.drop {H : Hp} : ∀ {vs : List V} {ds : List D} (n : Nat), DtAll H vs ds → DtAll H (vs.drop n) (ds.drop n)
  | _, _, 0, h => h
  | _, _, _ + 1, .nil => .nil
  | _, _, n + 1, .cons _ b => DtAll.drop n b
theorem DtAll.set {H : Hp} {v : V} {d : D} (h : Dt H v d) : ∀ {vs : List V} {ds : List D} (n : Nat), DtAll H vs ds → DtAll H (vs.set n v) (ds.set n d)
  | _, _, _, .nil => .nil
  | _, _, 0, .cons _ b => .cons h b
  | _, _, n + 1, .cons a b => .cons a (DtAll.set h n b)
theorem OkAll.take : ∀ {ds : List D} (n : Nat), OkAll ds → OkAll (ds.take n)
  | _, 0, _ => trivial
  | [], _ + 1, _ => trivial
  | _ :: _, n + 1, h => ⟨h.1, OkAll.take n h.2⟩
theorem OkAll.drop : ∀ {ds : List D} (n : Nat), OkAll ds → OkAll (ds.drop n)
  | _, 0, h => h
  | [], _ + 1, _ => trivial
  | _ :: _, n + 1, h => OkAll.drop n h.2
theorem OkAll.set {d : D} (h : Ok d) : ∀ {ds : List D} (n : Nat), OkAll ds → OkAll (ds.set n d)
  | [], _, _ => trivial
  | _ :: _, 0, g => ⟨h, g.2⟩
  | _ :: _, n + 1, g => ⟨g.1, OkAll.set h n g.2⟩
/-- a list's item at a drawn place -/
theorem pickN {H0 H : Hp} {xs : List V} {ds : List D} (hall : DtAll (New H0 H) xs ds) (ok : OkAll ds) {r : Int} (r0 : 0 ≤ r) (r1 : r < ds.length) : ∃ (v : V) (d : D), atI xs r = some v ∧ Dt (New H0 H) v d ∧ Ok d := by
  obtain ⟨v, hv, _, hr⟩ := at_lt (xs := xs) r0 (by rw [hall.length]; exact r1)
  obtain ⟨d, hd, h⟩ := hall.get hr
  exact ⟨v, d, hv, h, ok.mem (List.mem_of_getElem? hd)⟩
theorem okS {z : Str} (h : z.length ≤ 3000 := by decide +kernel) (a : Asc z := by decide +kernel) : Ok (.str z) := ⟨h, a⟩
theorem okI {i : Int} (h : i.natAbs < 2 ^ 200 := by decide) : Ok (.int i) := lt300 h
theorem But.none {l p : Addr} {H H' : Hp} (B : But l H H') (h : H' p = none) (ne : p ≠ l) : H p = none := by
  cases e : H p with
  | none => rfl
  | some o =>
    rw [B _ _ e ne] at h
    cases h
theorem new_back {H H1 H2 : Hp} {l : Addr} (B : But l H H1) (S1 : Src H1 l) : Same (New H1 H2) (New H H2) := fun b o e => by
  obtain ⟨h1, h2⟩ := new_some e
  rw [new_at (B.none h1 (S1.ne h1))]
  exact h2
section
variable {l : Addr} {σ : L2.St} {H : Hp} {K : PySem.W.Frag}
theorem mk_tupof {i : Nat} {p : Addr} {xs : List V} {ds : List D} {o : HO} (e : σ[i]? = some (some (.ref p))) (hp : H p = some (.lst xs)) (hd : DtAll (Off l H) xs ds) (hl : H l = some o) : Mk l σ (tCB (rTupOf K) (tCons (tVar i) tNil)) H (.tup ds) := fun H1 s Q q => by
  refine ⟨_, e, p, xs, rfl, .inl ⟨SqL.of (s _ _ hp), fun r hr => ?_⟩⟩
  have ne : r ≠ l := fun z => by
    subst z
    rw [s _ _ hl] at hr
    cases hr
  exact q (.ref r) _ (Same.upd hr) (.tup (by rw [off_ne ne]; exact upd_same) (hd.same (sOff (s.trans (Same.upd hr)))))
end
theorem dt_rep {H : Hp} {v : V} {d : D} (h : Dt H v d) : ∀ n : Nat, DtAll H (List.replicate n [v]).flatten (List.replicate n d)
  | 0 => .nil
  | n + 1 => by
    rw [List.replicate_succ, List.replicate_succ, List.flatten_cons]
    exact .cons h (dt_rep h n)
theorem ok_rep {d : D} (h : Ok d) : ∀ n : Nat, OkAll (List.replicate n d)
  | 0 => trivial
  | n + 1 => ⟨h, ok_rep h n⟩
theorem Src.lst {H : Hp} {l : Addr} (S : Src H l) : ∃ xs, H l = Option.some (.lst xs) := by
  obtain ⟨n, z, e, _⟩ := S
  exact ⟨_, e⟩
end Dear

namespace Dear
open PySem PySem.Spec PyProof.Rows L2
/-! ### plain books: texts of which none begins another -/
theorem starts_txt (a b : List Nat) : Txt.startswith (txt a) (txt b) = decide (b <+: a) := by
  unfold Txt.startswith
  rw [PySem.StrLaws.subAt_eq, txt_list, txt_list, txt_length, txt_length, List.drop_zero, Nat.zero_add]
  by_cases h : b <+: a
  · have h1 := List.prefix_iff_eq_take.mp h
    have h2 := h.length_le
    rw [decide_eq_true h, decide_eq_true h2, ← h1]
    simp
  · rw [decide_eq_false h]
    have h1 : ¬ b = a.take b.length := fun e => h (List.prefix_iff_eq_take.mpr e)
    have h2 : (a.take b.length == b) = false := by
      simp only [beq_eq_false_iff_ne, ne_eq]
      exact fun e => h1 e.symm
    rw [h2, Bool.and_false]
def Apart (a b : List Nat) : Prop := ¬ a <+: b ∧ ¬ b <+: a
theorem Apart.symm {a b : List Nat} (h : Apart a b) : Apart b a := ⟨h.2, h.1⟩
abbrev PF (bs : List (List Nat)) : Prop := bs.Pairwise Apart
structure WdOk (n : Nat) (w : List Nat) : Prop where
  l : ∀ c ∈ w, c ∈ letters.cps.toList
  lo : n ≤ w.length
  hi : w.length ≤ 8
/-- a plain book -/
structure BkOk (bs : List (List Nat)) : Prop where
  pf : PF bs
  all : ∀ w ∈ bs, WdOk 1 w
  l1 : 1 ≤ bs.length
  l20 : bs.length ≤ 20
/-- the ends of a tree -/
structure EnOk (bs : List (List Nat)) : Prop where
  pf : PF bs
  all : ∀ w ∈ bs, WdOk 0 w
  l1 : 1 ≤ bs.length
  l20 : bs.length ≤ 20
theorem EnOk.start : EnOk [[]] := ⟨List.pairwise_singleton _ _, fun w h => by
  have : w = [] := by simpa using h
  subst this
  exact ⟨fun _ h => (nomatch h), Nat.zero_le _, Nat.zero_le _⟩, Nat.le_refl _, by decide⟩
theorem apart_ext {b w : List Nat} {c : Nat} (h : Apart b w) : Apart (b ++ [c]) w := by
  constructor
  · exact fun e => h.1 ((List.prefix_append b [c]).trans e)
  · intro e
    rcases List.prefix_concat_iff.mp e with e | e
    · exact h.1 (by rw [e]; exact List.prefix_append b [c])
    · exact h.2 e
theorem apart_new {b : List Nat} {c d : Nat} (h : c ≠ d) : Apart (b ++ [c]) (b ++ [d]) := by
  have key : ∀ {x y : Nat}, x ≠ y → ¬ (b ++ [x]) <+: (b ++ [y]) := fun {x y} hn e => by
    have := e.eq_of_length (by rw [List.length_append, List.length_append]; rfl)
    have := List.append_cancel_left this
    exact hn (by simpa using this)
  exact ⟨key h, key (Ne.symm h)⟩
theorem EnOk.step {pre post : List (List Nat)} {b : List Nat} {cs : List Nat} (h : EnOk (pre ++ [b] ++ post)) (hb : b.length < 8) (nd : cs.Nodup) (hc : ∀ c ∈ cs, c ∈ letters.cps.toList) (c1 : 1 ≤ cs.length) (hl : pre.length + 1 + post.length + cs.length < 22) :
    EnOk (pre ++ cs.map (fun c => b ++ [c]) ++ post) := by
  obtain ⟨pf, all, l1, l20⟩ := h
  have hp := List.pairwise_append.mp pf
  have hp1 := List.pairwise_append.mp hp.1
  have wb := all b (by simp)
  refine ⟨?_, ?_, ?_, ?_⟩
  · refine List.pairwise_append.mpr ⟨List.pairwise_append.mpr ⟨hp1.1, ?_, ?_⟩, hp.2.1, ?_⟩
    · rw [List.pairwise_map]
      exact (List.nodup_iff_pairwise_ne.mp nd).imp fun e => apart_new e
    · intro x hx y hy
      obtain ⟨c, _, rfl⟩ := List.mem_map.mp hy
      exact (apart_ext (hp1.2.2 x hx b List.mem_cons_self).symm).symm
    · intro x hx y hy
      rcases List.mem_append.mp hx with hx | hx
      · exact hp.2.2 x (List.mem_append_left _ hx) y hy
      · obtain ⟨c, _, rfl⟩ := List.mem_map.mp hx
        exact apart_ext (hp.2.2 b (by simp) y hy)
  · intro w hw
    rcases List.mem_append.mp hw with hw | hw
    · rcases List.mem_append.mp hw with hw | hw
      · exact all w (by simp [hw])
      · obtain ⟨c, hcc, rfl⟩ := List.mem_map.mp hw
        refine ⟨fun x hx => ?_, Nat.zero_le _, ?_⟩
        · rcases List.mem_append.mp hx with hx | hx
          · exact wb.l x hx
          · have : x = c := by simpa using hx
            subst this
            exact hc _ hcc
        · rw [List.length_append]
          show _ + 1 ≤ 8
          omega
    · exact all w (by simp [hw])
  · rw [List.length_append, List.length_append, List.length_map]
    omega
  · rw [List.length_append, List.length_append, List.length_map]
    omega
/-- none is without signs, but where there is no other -/
theorem EnOk.book {bs : List (List Nat)} (h : EnOk bs) (hn : bs ≠ [[]]) : BkOk bs := by
  refine ⟨h.pf, fun w hw => ?_, h.l1, h.l20⟩
  have hw0 := h.all w hw
  refine ⟨hw0.l, ?_, hw0.hi⟩
  cases w with
  | cons c w => exact Nat.succ_le_succ (Nat.zero_le _)
  | nil =>
    exfalso
    obtain ⟨pre, post, e⟩ := List.append_of_mem hw
    have pf := h.pf
    rw [e] at pf
    have h2 := List.pairwise_append.mp pf
    cases post with
    | cons x r =>
      have := (List.pairwise_cons.mp h2.2.1).1 x List.mem_cons_self
      exact this.1 List.nil_prefix
    | nil =>
      cases pre with
      | nil => exact hn e
      | cons x r =>
        have := h2.2.2 x List.mem_cons_self [] List.mem_cons_self
        exact this.2 List.nil_prefix
theorem BkOk.perm {bs cs : List (List Nat)} (h : BkOk bs) (p : bs.Perm cs) : BkOk cs :=
  ⟨(p.pairwise_iff (fun h => h.symm)).mp h.pf, fun w hw => h.all w (p.mem_iff.mpr hw), by rw [← p.length_eq]; exact h.l1, by rw [← p.length_eq]; exact h.l20⟩
/-- letters by shift and step -/
def lettB (s st j : Nat) : Nat := letN ((s + st * j) % 26)
theorem lettB_nodup {s st n : Nat} (hst : st = 1 ∨ st = 3 ∨ st = 5 ∨ st = 7) (hn : n ≤ 8) : ((List.range n).map (lettB s st)).Nodup := by
  have inj : ∀ a < 26, ∀ b < 26, letN a = letN b → a = b := by decide +kernel
  rw [List.nodup_iff_pairwise_ne, List.pairwise_map]
  refine List.Pairwise.imp_of_mem ?_ (List.nodup_iff_pairwise_ne.mp List.nodup_range)
  intro a b ha hb hne e
  have ha := List.mem_range.mp ha
  have hb := List.mem_range.mp hb
  have := inj _ (Nat.mod_lt _ (by decide)) _ (Nat.mod_lt _ (by decide)) e
  rcases hst with rfl | rfl | rfl | rfl <;> omega
theorem lettB_mem {s st j : Nat} : lettB s st j ∈ letters.cps.toList := letN_mem (Nat.mod_lt _ (by decide))
/-! ### what look_at_plain asks -/
def bkD (bs : List (List Nat)) : D := .lst (bs.map fun w => .str (txt w))
def strOf : D → Str
  | .str z => z
  | _ => ""
/-- some text begins another one -/
def pfB (zs : List Str) : Bool := (List.range zs.length).all fun i => (List.range zs.length).all fun j => decide (i = j) || !Txt.startswith (zs.getD j "") (zs.getD i "")
def plainOk : D → Bool
  | .lst ds => decide (1 ≤ ds.length ∧ ds.length ≤ 20) && ds.all isNm && pfB (ds.map strOf)
  | _ => false
theorem PF.not_prefix {bs : List (List Nat)} (h : PF bs) {i j : Nat} {a b : List Nat} (ha : bs[i]? = some a) (hb : bs[j]? = some b) (hn : i ≠ j) : ¬ a <+: b := by
  have key : ∀ {i j : Nat} {a b : List Nat}, bs[i]? = some a → bs[j]? = some b → i < j → Apart a b := fun {i j a b} ha hb hlt => by
    obtain ⟨h1, e1⟩ := List.getElem?_eq_some_iff.mp ha
    obtain ⟨h2, e2⟩ := List.getElem?_eq_some_iff.mp hb
    have := List.pairwise_iff_getElem.mp h i j h1 h2 hlt
    rw [e1, e2] at this
    exact this
  by_cases hlt : i < j
  · exact (key ha hb hlt).1
  · exact (key hb ha (by omega)).2
theorem BkOk.plain {bs : List (List Nat)} (h : BkOk bs) : plainOk (bkD bs) = true := by
  have e : (bs.map fun w => D.str (txt w)).map strOf = bs.map txt := by
    rw [List.map_map]
    rfl
  show (decide (1 ≤ (bs.map fun w => D.str (txt w)).length ∧ (bs.map fun w => D.str (txt w)).length ≤ 20) && (bs.map fun w => D.str (txt w)).all isNm && pfB ((bs.map fun w => D.str (txt w)).map strOf)) = true
  rw [e, List.length_map, decide_eq_true ⟨h.l1, h.l20⟩, Bool.true_and, Bool.and_eq_true]
  constructor
  · rw [List.all_eq_true]
    intro d hd
    obtain ⟨w, hw, rfl⟩ := List.mem_map.mp hd
    have := h.all w hw
    exact nm_txt this.l this.lo this.hi
  · unfold pfB
    rw [List.all_eq_true]
    intro i hi
    rw [List.all_eq_true]
    intro j hj
    have hi := List.mem_range.mp hi
    have hj := List.mem_range.mp hj
    rw [List.length_map] at hi hj
    by_cases e : i = j
    · rw [decide_eq_true e]
      rfl
    · have ei : (bs.map txt).getD i "" = txt bs[i] := by
        rw [List.getD_eq_getElem?_getD, List.getElem?_map, List.getElem?_eq_getElem hi]
        rfl
      have ej : (bs.map txt).getD j "" = txt bs[j] := by
        rw [List.getD_eq_getElem?_getD, List.getElem?_map, List.getElem?_eq_getElem hj]
        rfl
      rw [ei, ej, starts_txt, decide_eq_false (h.pf.not_prefix (List.getElem?_eq_getElem hi) (List.getElem?_eq_getElem hj) e)]
      simp
theorem BkOk.ok {bs : List (List Nat)} (h : BkOk bs) : Ok (bkD bs) ∧ NoD (bkD bs) ∧ dep (bkD bs) ≤ 64 := by
  have all := h.all
  clear h
  refine ⟨?_, ?_, ?_⟩
  · show OkAll (bs.map fun w => .str (txt w))
    induction bs with
    | nil => trivial
    | cons w r ih =>
      have hw := all w List.mem_cons_self
      refine ⟨⟨by rw [txt_length]; have := hw.hi; omega, fun c hc => by rw [txt_list] at hc; exact in_letters_asc (hw.l c hc)⟩, ih fun x hx => all x (List.mem_cons_of_mem _ hx)⟩
  · refine noAll_of fun d hd => ?_
    obtain ⟨w, hw, rfl⟩ := List.mem_map.mp hd
    trivial
  · have := depAll_le (ds := bs.map fun w => D.str (txt w)) (n := 0) fun d hd => by
      obtain ⟨w, hw, rfl⟩ := List.mem_map.mp hd
      exact Nat.le_refl _
    show depAll (bs.map fun w => D.str (txt w)) + 1 ≤ 64
    omega
/-- texts of a list of code points, as values -/
def vsT (bs : List (List Nat)) : List V := bs.map fun w => V.str (txt w)
theorem dt_vsT {H : Hp} : ∀ bs : List (List Nat), DtAll H (vsT bs) (bs.map fun w => D.str (txt w))
  | [] => .nil
  | _ :: bs => .cons (.str _) (dt_vsT bs)
theorem vsT_get {bs : List (List Nat)} {i : Nat} {v : V} (h : (vsT bs)[i]? = some v) : ∃ w, bs[i]? = some w ∧ v = .str (txt w) := by
  unfold vsT at h
  rw [List.getElem?_map] at h
  cases e : bs[i]? with
  | none =>
    rw [e] at h
    cases h
  | some w =>
    rw [e] at h
    exact ⟨w, rfl, (Option.some.inj h).symm⟩
end Dear

namespace Dear
open PySem PySem.Spec PyProof.Rows L2
def top (i : Nat) : Stmt := PySem.Challenge.pw_dearsigns_k20_rows_written.main.body.getD i (.Pass ⟨0, 0, 0, 0⟩)
abbrev s_NoTongue___init__ : Stmt := inClass (top 11) 0
abbrev s_NoWants___init__ : Stmt := inClass (top 12) 0
abbrev s_NoThing___init__ : Stmt := inClass (top 13) 0
abbrev s_BadSign___init__ : Stmt := inClass (top 14) 0
abbrev s_NoText___init__ : Stmt := inClass (top 15) 0
abbrev s_is_whole : Stmt := top 19
abbrev s_is_name : Stmt := top 20
abbrev s_look_at_plain : Stmt := top 23
abbrev s_write_row : Stmt := top 24
abbrev s__law_pool : Stmt := top 26
abbrev s__law_take : Stmt := top 27
abbrev s__law_plain : Stmt := top 28
abbrev s__law_odd : Stmt := top 29
abbrev s__law_due : Stmt := top 30
abbrev s__law_place : Stmt := top 31
abbrev s__law_spoiled : Stmt := top 32
abbrev s_law : Stmt := top 33
abbrev n_NoTongue___init__ : List Str := ["self", "part"]
theorem c_NoTongue___init__ : FnScope n_NoTongue___init__ ["self", "part"] (defScope s_NoTongue___init__) := ⟨rfl, rfl, rfl, by decide +kernel, rfl, by decide +kernel, by decide +kernel⟩
abbrev n_NoWants___init__ : List Str := ["self", "number"]
theorem c_NoWants___init__ : FnScope n_NoWants___init__ ["self", "number"] (defScope s_NoWants___init__) := ⟨rfl, rfl, rfl, by decide +kernel, rfl, by decide +kernel, by decide +kernel⟩
abbrev n_NoThing___init__ : List Str := ["self", "place"]
theorem c_NoThing___init__ : FnScope n_NoThing___init__ ["self", "place"] (defScope s_NoThing___init__) := ⟨rfl, rfl, rfl, by decide +kernel, rfl, by decide +kernel, by decide +kernel⟩
abbrev n_BadSign___init__ : List Str := ["self", "place"]
theorem c_BadSign___init__ : FnScope n_BadSign___init__ ["self", "place"] (defScope s_BadSign___init__) := ⟨rfl, rfl, rfl, by decide +kernel, rfl, by decide +kernel, by decide +kernel⟩
abbrev n_NoText___init__ : List Str := ["self", "row"]
theorem c_NoText___init__ : FnScope n_NoText___init__ ["self", "row"] (defScope s_NoText___init__) := ⟨rfl, rfl, rfl, by decide +kernel, rfl, by decide +kernel, by decide +kernel⟩
abbrev n_is_whole : List Str := ["thing"]
theorem c_is_whole : FnScope n_is_whole ["thing"] (defScope s_is_whole) := ⟨rfl, rfl, rfl, by decide +kernel, rfl, by decide +kernel, by decide +kernel⟩
abbrev n_is_name : List Str := ["thing", "sign"]
theorem c_is_name : FnScope n_is_name ["thing"] (defScope s_is_name) := ⟨rfl, rfl, rfl, by decide +kernel, rfl, by decide +kernel, by decide +kernel⟩
abbrev n_look_at_plain : List Str := ["thing", "number", "text", "other", "longer"]
theorem c_look_at_plain : FnScope n_look_at_plain ["thing"] (defScope s_look_at_plain) := ⟨rfl, rfl, rfl, by decide +kernel, rfl, by decide +kernel, by decide +kernel⟩
abbrev n_write_row : List Str := ["book", "row", "place", "number"]
theorem c_write_row : FnScope n_write_row ["book", "row"] (defScope s_write_row) := ⟨rfl, rfl, rfl, by decide +kernel, rfl, by decide +kernel, by decide +kernel⟩
abbrev n__law_pool : List Str := ["_law_script", "_law_k", "_law_cell", "_law_seed"]
theorem c__law_pool : FnScope n__law_pool ["_law_script", "_law_k"] (defScope s__law_pool) := ⟨rfl, rfl, rfl, by decide +kernel, rfl, by decide +kernel, by decide +kernel⟩
abbrev n__law_take : List Str := ["_law_pool_here", "_law_many", "_law_found"]
theorem c__law_take : FnScope n__law_take ["_law_pool_here", "_law_many"] (defScope s__law_take) := ⟨rfl, rfl, rfl, by decide +kernel, rfl, by decide +kernel, by decide +kernel⟩
abbrev n__law_plain : List Str := ["_law_pool_here", "_law_ends", "_law_k", "_law_at", "_law_many", "_law_shift", "_law_step", "_law_begin", "_law_letters", "_law_found", "_law_j", "_law_letter"]
theorem c__law_plain : FnScope n__law_plain ["_law_pool_here"] (defScope s__law_plain) := ⟨rfl, rfl, rfl, by decide +kernel, rfl, by decide +kernel, by decide +kernel⟩
abbrev n__law_odd : List Str := ["_law_pool_here", "_law_many", "_law_some"]
theorem c__law_odd : FnScope n__law_odd ["_law_pool_here", "_law_many"] (defScope s__law_odd) := ⟨rfl, rfl, rfl, by decide +kernel, rfl, by decide +kernel, by decide +kernel⟩
abbrev n__law_due : List Str := ["_law_row", "_law_many", "_law_k"]
theorem c__law_due : FnScope n__law_due ["_law_row", "_law_many"] (defScope s__law_due) := ⟨rfl, rfl, rfl, by decide +kernel, rfl, by decide +kernel, by decide +kernel⟩
abbrev n__law_place : List Str := ["_law_book", "_law_row", "_law_error", "e"]
theorem c__law_place : FnScope n__law_place ["_law_book", "_law_row"] (defScope s__law_place) := ⟨rfl, rfl, rfl, by decide +kernel, rfl, by decide +kernel, by decide +kernel⟩
abbrev n__law_spoiled : List Str := ["_law_pool_here", "_law_row", "_law_many", "_law_found", "_law_turn", "_law_at"]
theorem c__law_spoiled : FnScope n__law_spoiled ["_law_pool_here", "_law_row", "_law_many"] (defScope s__law_spoiled) := ⟨rfl, rfl, rfl, by decide +kernel, rfl, by decide +kernel, by decide +kernel⟩
abbrev n_law : List Str := ["_law_script", "_law_book", "_law_row", "_law_kept", "_law_due_here", "_law_found", "_law_pool_here", "_law_turn", "_law_spoiled_here", "_law_k", "_law_number"]
theorem c_law : FnScope n_law ["_law_script"] (defScope s_law) := ⟨rfl, rfl, rfl, by decide +kernel, rfl, by decide +kernel, by decide +kernel⟩
structure Ads where
  DearError : Addr
  NoNumber : Addr
  NoBook : Addr
  NoTree : Addr
  TooMany : Addr
  NoCount : Addr
  NoUndo : Addr
  NoTurn : Addr
  NoRow : Addr
  Unknown : Addr
  NoTongue : Addr
  NoWants : Addr
  NoThing : Addr
  BadSign : Addr
  NoText : Addr
/-- what the top has left -/
structure Txt (K : PySem.W.Frag) (mg : Str → Option Value) where
  A : Ads
  C_DearError : mg "DearError" = some (.ref A.DearError)
  C_NoNumber : mg "NoNumber" = some (.ref A.NoNumber)
  C_NoBook : mg "NoBook" = some (.ref A.NoBook)
  C_NoTree : mg "NoTree" = some (.ref A.NoTree)
  C_TooMany : mg "TooMany" = some (.ref A.TooMany)
  C_NoCount : mg "NoCount" = some (.ref A.NoCount)
  C_NoUndo : mg "NoUndo" = some (.ref A.NoUndo)
  C_NoTurn : mg "NoTurn" = some (.ref A.NoTurn)
  C_NoRow : mg "NoRow" = some (.ref A.NoRow)
  C_Unknown : mg "Unknown" = some (.ref A.Unknown)
  C_NoTongue : mg "NoTongue" = some (.ref A.NoTongue)
  C_NoWants : mg "NoWants" = some (.ref A.NoWants)
  C_NoThing : mg "NoThing" = some (.ref A.NoThing)
  C_BadSign : mg "BadSign" = some (.ref A.BadSign)
  C_NoText : mg "NoText" = some (.ref A.NoText)
  X_NoBook : ExOwn K mg "NoBook" A.NoBook
  D_DearError : DrI K mg "DearError" A.DearError
  X_NoThing : ExInit K mg "NoThing" "place" A.NoThing
  F_NoThing : DfI K A.NoThing "NoThing.__init__" s_NoThing___init__ "place"
  q_NoBook_DearError : PySem.W.kitOne K (.ref A.NoBook) (.ref A.DearError) = some true
  q_NoBook_NoNumber : PySem.W.kitOne K (.ref A.NoBook) (.ref A.NoNumber) = some false
  q_NoBook_NoBook : PySem.W.kitOne K (.ref A.NoBook) (.ref A.NoBook) = some true
  q_NoBook_NoTree : PySem.W.kitOne K (.ref A.NoBook) (.ref A.NoTree) = some false
  q_NoBook_TooMany : PySem.W.kitOne K (.ref A.NoBook) (.ref A.TooMany) = some false
  q_NoBook_NoCount : PySem.W.kitOne K (.ref A.NoBook) (.ref A.NoCount) = some false
  q_NoBook_NoUndo : PySem.W.kitOne K (.ref A.NoBook) (.ref A.NoUndo) = some false
  q_NoBook_NoTurn : PySem.W.kitOne K (.ref A.NoBook) (.ref A.NoTurn) = some false
  q_NoBook_NoRow : PySem.W.kitOne K (.ref A.NoBook) (.ref A.NoRow) = some false
  q_NoBook_Unknown : PySem.W.kitOne K (.ref A.NoBook) (.ref A.Unknown) = some false
  q_NoBook_NoTongue : PySem.W.kitOne K (.ref A.NoBook) (.ref A.NoTongue) = some false
  q_NoBook_NoWants : PySem.W.kitOne K (.ref A.NoBook) (.ref A.NoWants) = some false
  q_NoBook_NoThing : PySem.W.kitOne K (.ref A.NoBook) (.ref A.NoThing) = some false
  q_NoBook_BadSign : PySem.W.kitOne K (.ref A.NoBook) (.ref A.BadSign) = some false
  q_NoBook_NoText : PySem.W.kitOne K (.ref A.NoBook) (.ref A.NoText) = some false
  q_NoBook_ValueError : PySem.W.kitOne K (.ref A.NoBook) (.type "ValueError") = some true
  m_NoBook : PySem.W.exmOne K (.ref A.NoBook) (.ref A.DearError) = some true
  q_NoThing_DearError : PySem.W.kitOne K (.ref A.NoThing) (.ref A.DearError) = some true
  q_NoThing_NoNumber : PySem.W.kitOne K (.ref A.NoThing) (.ref A.NoNumber) = some false
  q_NoThing_NoBook : PySem.W.kitOne K (.ref A.NoThing) (.ref A.NoBook) = some false
  q_NoThing_NoTree : PySem.W.kitOne K (.ref A.NoThing) (.ref A.NoTree) = some false
  q_NoThing_TooMany : PySem.W.kitOne K (.ref A.NoThing) (.ref A.TooMany) = some false
  q_NoThing_NoCount : PySem.W.kitOne K (.ref A.NoThing) (.ref A.NoCount) = some false
  q_NoThing_NoUndo : PySem.W.kitOne K (.ref A.NoThing) (.ref A.NoUndo) = some false
  q_NoThing_NoTurn : PySem.W.kitOne K (.ref A.NoThing) (.ref A.NoTurn) = some false
  q_NoThing_NoRow : PySem.W.kitOne K (.ref A.NoThing) (.ref A.NoRow) = some false
  q_NoThing_Unknown : PySem.W.kitOne K (.ref A.NoThing) (.ref A.Unknown) = some false
  q_NoThing_NoTongue : PySem.W.kitOne K (.ref A.NoThing) (.ref A.NoTongue) = some false
  q_NoThing_NoWants : PySem.W.kitOne K (.ref A.NoThing) (.ref A.NoWants) = some false
  q_NoThing_NoThing : PySem.W.kitOne K (.ref A.NoThing) (.ref A.NoThing) = some true
  q_NoThing_BadSign : PySem.W.kitOne K (.ref A.NoThing) (.ref A.BadSign) = some false
  q_NoThing_NoText : PySem.W.kitOne K (.ref A.NoThing) (.ref A.NoText) = some false
  q_NoThing_ValueError : PySem.W.kitOne K (.ref A.NoThing) (.type "ValueError") = some true
  m_NoThing : PySem.W.exmOne K (.ref A.NoThing) (.ref A.DearError) = some true
  f_is_whole : Df K mg "is_whole" s_is_whole ["thing"]
  f_is_name : Df K mg "is_name" s_is_name ["thing"]
  f_look_at_plain : Df K mg "look_at_plain" s_look_at_plain ["thing"]
  f_write_row : Df K mg "write_row" s_write_row ["book", "row"]
  f__law_pool : Df K mg "_law_pool" s__law_pool ["_law_script", "_law_k"]
  f__law_take : Df K mg "_law_take" s__law_take ["_law_pool_here", "_law_many"]
  f__law_plain : Df K mg "_law_plain" s__law_plain ["_law_pool_here"]
  f__law_odd : Df K mg "_law_odd" s__law_odd ["_law_pool_here", "_law_many"]
  f__law_due : Df K mg "_law_due" s__law_due ["_law_row", "_law_many"]
  f__law_place : Df K mg "_law_place" s__law_place ["_law_book", "_law_row"]
  f__law_spoiled : Df K mg "_law_spoiled" s__law_spoiled ["_law_pool_here", "_law_row", "_law_many"]
  f_law : Df K mg "law" s_law ["_law_script"]
  g_LETTERS : ∃ t, mg "LETTERS" = some (.str "abcdefghijklmnopqrstuvwxyz" t)
  g_LONGEST : ∃ t, mg "LONGEST" = some (.int 8 t)
  g_MOST_WORDS : ∃ t, mg "MOST_WORDS" = some (.int 20 t)
  b_ValueError : mg "ValueError" = none
  b_all : mg "all" = none
  b_bool : mg "bool" = none
  b_enumerate : mg "enumerate" = none
  b_int : mg "int" = none
  b_isinstance : mg "isinstance" = none
  b_len : mg "len" = none
  b_list : mg "list" = none
  b_max : mg "max" = none
  b_min : mg "min" = none
  b_range : mg "range" = none
  b_str : mg "str" = none
  b_tuple : mg "tuple" = none
def txt_mk {K : PySem.W.Frag} {h : Heap} {mg : Str → Option Value} (X : K.In h) (G : h.Ns mainGlobals mg)
    {C_DearError : Addr} {C_NoNumber : Addr} {C_NoBook : Addr} {C_NoTree : Addr} {C_TooMany : Addr} {C_NoCount : Addr} {C_NoUndo : Addr} {C_NoTurn : Addr} {C_NoRow : Addr} {C_Unknown : Addr} {C_NoTongue : Addr} {C_NoWants : Addr} {C_NoThing : Addr} {C_BadSign : Addr} {C_NoText : Addr} 
    {nm_NoThing qn_NoThing : Str} {N_NoThing I_NoThing : Addr} {bs_NoThing sb_NoThing : List Value} {sn_NoThing : List Str} {ab_NoThing : Bool} {col_NoThing : Option Bool} {dd_NoThing odI_NoThing anI_NoThing : Option Addr} {m0_NoThing m1_NoThing m2_NoThing m3_NoThing m5_NoThing : Option Value} {slI_NoThing : Array (Option Value)} {ocI_NoThing kVI_NoThing dcI_NoThing pmI_NoThing cdI_NoThing ctI_NoThing : Value}
    {f1 : Addr} {od1 an1 : Option Addr} {sl1 : Array (Option Value)} {oc1 kV1 dc1 pm1 cd1 ct1 : Value}
    {f2 : Addr} {od2 an2 : Option Addr} {sl2 : Array (Option Value)} {oc2 kV2 dc2 pm2 cd2 ct2 : Value}
    {f3 : Addr} {od3 an3 : Option Addr} {sl3 : Array (Option Value)} {oc3 kV3 dc3 pm3 cd3 ct3 : Value}
    {f4 : Addr} {od4 an4 : Option Addr} {sl4 : Array (Option Value)} {oc4 kV4 dc4 pm4 cd4 ct4 : Value}
    {f5 : Addr} {od5 an5 : Option Addr} {sl5 : Array (Option Value)} {oc5 kV5 dc5 pm5 cd5 ct5 : Value}
    {f6 : Addr} {od6 an6 : Option Addr} {sl6 : Array (Option Value)} {oc6 kV6 dc6 pm6 cd6 ct6 : Value}
    {f7 : Addr} {od7 an7 : Option Addr} {sl7 : Array (Option Value)} {oc7 kV7 dc7 pm7 cd7 ct7 : Value}
    {f8 : Addr} {od8 an8 : Option Addr} {sl8 : Array (Option Value)} {oc8 kV8 dc8 pm8 cd8 ct8 : Value}
    {f9 : Addr} {od9 an9 : Option Addr} {sl9 : Array (Option Value)} {oc9 kV9 dc9 pm9 cd9 ct9 : Value}
    {f10 : Addr} {od10 an10 : Option Addr} {sl10 : Array (Option Value)} {oc10 kV10 dc10 pm10 cd10 ct10 : Value}
    {f11 : Addr} {od11 an11 : Option Addr} {sl11 : Array (Option Value)} {oc11 kV11 dc11 pm11 cd11 ct11 : Value}
    {f12 : Addr} {od12 an12 : Option Addr} {sl12 : Array (Option Value)} {oc12 kV12 dc12 pm12 cd12 ct12 : Value}
    {t13 : Tok}
    {t14 : Tok}
    {t15 : Tok}
    (g_DearError : PySem.W.nsIn K mainGlobals "DearError" = some (some (.ref C_DearError)))
    (i_DearError : PySem.W.isClsIn K C_DearError = true) (t_DearError : PySem.W.typeIn K (.ref C_DearError) = some (.type "type"))
    (g_NoNumber : PySem.W.nsIn K mainGlobals "NoNumber" = some (some (.ref C_NoNumber)))
    (i_NoNumber : PySem.W.isClsIn K C_NoNumber = true) (t_NoNumber : PySem.W.typeIn K (.ref C_NoNumber) = some (.type "type"))
    (g_NoBook : PySem.W.nsIn K mainGlobals "NoBook" = some (some (.ref C_NoBook)))
    (i_NoBook : PySem.W.isClsIn K C_NoBook = true) (t_NoBook : PySem.W.typeIn K (.ref C_NoBook) = some (.type "type"))
    (g_NoTree : PySem.W.nsIn K mainGlobals "NoTree" = some (some (.ref C_NoTree)))
    (i_NoTree : PySem.W.isClsIn K C_NoTree = true) (t_NoTree : PySem.W.typeIn K (.ref C_NoTree) = some (.type "type"))
    (g_TooMany : PySem.W.nsIn K mainGlobals "TooMany" = some (some (.ref C_TooMany)))
    (i_TooMany : PySem.W.isClsIn K C_TooMany = true) (t_TooMany : PySem.W.typeIn K (.ref C_TooMany) = some (.type "type"))
    (g_NoCount : PySem.W.nsIn K mainGlobals "NoCount" = some (some (.ref C_NoCount)))
    (i_NoCount : PySem.W.isClsIn K C_NoCount = true) (t_NoCount : PySem.W.typeIn K (.ref C_NoCount) = some (.type "type"))
    (g_NoUndo : PySem.W.nsIn K mainGlobals "NoUndo" = some (some (.ref C_NoUndo)))
    (i_NoUndo : PySem.W.isClsIn K C_NoUndo = true) (t_NoUndo : PySem.W.typeIn K (.ref C_NoUndo) = some (.type "type"))
    (g_NoTurn : PySem.W.nsIn K mainGlobals "NoTurn" = some (some (.ref C_NoTurn)))
    (i_NoTurn : PySem.W.isClsIn K C_NoTurn = true) (t_NoTurn : PySem.W.typeIn K (.ref C_NoTurn) = some (.type "type"))
    (g_NoRow : PySem.W.nsIn K mainGlobals "NoRow" = some (some (.ref C_NoRow)))
    (i_NoRow : PySem.W.isClsIn K C_NoRow = true) (t_NoRow : PySem.W.typeIn K (.ref C_NoRow) = some (.type "type"))
    (g_Unknown : PySem.W.nsIn K mainGlobals "Unknown" = some (some (.ref C_Unknown)))
    (i_Unknown : PySem.W.isClsIn K C_Unknown = true) (t_Unknown : PySem.W.typeIn K (.ref C_Unknown) = some (.type "type"))
    (g_NoTongue : PySem.W.nsIn K mainGlobals "NoTongue" = some (some (.ref C_NoTongue)))
    (i_NoTongue : PySem.W.isClsIn K C_NoTongue = true) (t_NoTongue : PySem.W.typeIn K (.ref C_NoTongue) = some (.type "type"))
    (g_NoWants : PySem.W.nsIn K mainGlobals "NoWants" = some (some (.ref C_NoWants)))
    (i_NoWants : PySem.W.isClsIn K C_NoWants = true) (t_NoWants : PySem.W.typeIn K (.ref C_NoWants) = some (.type "type"))
    (g_NoThing : PySem.W.nsIn K mainGlobals "NoThing" = some (some (.ref C_NoThing)))
    (i_NoThing : PySem.W.isClsIn K C_NoThing = true) (t_NoThing : PySem.W.typeIn K (.ref C_NoThing) = some (.type "type"))
    (g_BadSign : PySem.W.nsIn K mainGlobals "BadSign" = some (some (.ref C_BadSign)))
    (i_BadSign : PySem.W.isClsIn K C_BadSign = true) (t_BadSign : PySem.W.typeIn K (.ref C_BadSign) = some (.type "type"))
    (g_NoText : PySem.W.nsIn K mainGlobals "NoText" = some (some (.ref C_NoText)))
    (i_NoText : PySem.W.isClsIn K C_NoText = true) (t_NoText : PySem.W.typeIn K (.ref C_NoText) = some (.type "type"))
    (b_DearError : PySem.W.subIn K (.ref C_DearError) (.type "BaseException") = some true)
    (x1_NoBook : PySem.W.excIn K C_NoBook [.type "ValueError", .type "Exception", .type "BaseException", .type "object"] "ValueError.__new__" = true)
    (x2_NoBook : PySem.W.keepIn K (.ref C_NoBook) = true)
    (x3_NoBook : PySem.W.subIn K (.ref C_NoBook) (.type "BaseException") = some true)
    (x4_NoBook : PySem.W.typeIn K (.ref C_NoBook) = some (.type "type"))
    (x5_NoBook : PySem.W.findIn K (.ref C_NoBook) "__getattribute__" = some (some (.builtin "BaseException.__getattribute__")))
    (x6_NoBook : PySem.W.findIn K (.ref C_NoBook) "__getattr__" = some none)
    (x7_NoBook : PySem.W.hasDictIn K C_NoBook = true)
    (x8_NoBook : PySem.W.findIn K (.ref C_NoBook) "__class__" = some (some (.builtin "object.__class__")))
    (x9_NoBook : PySem.W.specialIn K (.builtin "object.__class__") "__get__" = some (some (.builtin "getset_descriptor.__get__")))
    (x10_NoBook : PySem.W.takesIn K (.builtin "object.__class__") = some true)
    (x11_NoBook : PySem.W.mroIn K C_NoBook (.type "object") = some true)
    (d1 : PySem.W.specialIn K (.ref C_DearError) "__getattribute__" = some (some (.builtin "type.__getattribute__")))
    (d2 : PySem.W.readsIn K C_DearError (.type "type") = true)
    (d3 : PySem.W.findCls K (.ref C_DearError) (.type "type") "__init__" = some (.val (.builtin "ValueError.__init__")))
    (xl_NoThing : K.lookup C_NoThing = some (excClassObj nm_NoThing qn_NoThing C_NoThing N_NoThing bs_NoThing [.ref C_DearError, .type "ValueError", .type "Exception", .type "BaseException", .type "object"] true sn_NoThing sb_NoThing ab_NoThing col_NoThing dd_NoThing m0_NoThing m1_NoThing m2_NoThing m3_NoThing m5_NoThing "ValueError.__new__"))
    (sa_NoThing : PySem.W.findIn K (.ref C_NoThing) "__setattr__" = some (some (.builtin "object.__setattr__")))
    (x2_NoThing : PySem.W.keepIn K (.ref C_NoThing) = true)
    (x3_NoThing : PySem.W.subIn K (.ref C_NoThing) (.type "BaseException") = some true)
    (x4_NoThing : PySem.W.typeIn K (.ref C_NoThing) = some (.type "type"))
    (x5_NoThing : PySem.W.findIn K (.ref C_NoThing) "__getattribute__" = some (some (.builtin "BaseException.__getattribute__")))
    (x6_NoThing : PySem.W.findIn K (.ref C_NoThing) "__getattr__" = some none)
    (x7_NoThing : PySem.W.hasDictIn K C_NoThing = true)
    (x8_NoThing : PySem.W.findIn K (.ref C_NoThing) "__class__" = some (some (.builtin "object.__class__")))
    (x9_NoThing : PySem.W.specialIn K (.builtin "object.__class__") "__get__" = some (some (.builtin "getset_descriptor.__get__")))
    (x10_NoThing : PySem.W.takesIn K (.builtin "object.__class__") = some true)
    (x11_NoThing : PySem.W.mroIn K C_NoThing (.type "object") = some true)
    (fn_NoThing : PySem.W.findIn K (.ref C_NoThing) "place" = some none)
    (i1_NoThing : PySem.W.findIn K (.ref C_NoThing) "__init__" = some (some (.ref I_NoThing)))
    (i2_NoThing : PySem.W.typeIn K (.ref I_NoThing) = some (.type "function"))
    (i3_NoThing : K.lookup I_NoThing = some ⟨ocI_NoThing, odI_NoThing, .func (PySem.W.fnOf "__init__" "NoThing.__init__" (defArgs s_NoThing___init__) (defBody s_NoThing___init__) (defScope s_NoThing___init__) .none kVI_NoThing dcI_NoThing pmI_NoThing anI_NoThing cdI_NoThing ctI_NoThing), slI_NoThing⟩)
    (i4_NoThing : PySem.W.codeIn K cdI_NoThing "NoThing.__init__" = true)
    (i5_NoThing : PySem.W.keepIn K (.ref I_NoThing) = true)
    (q_NoBook_DearError : PySem.W.subIn K (.ref C_NoBook) (.ref C_DearError) = some true)
    (n_NoBook_DearError : (Value.ref C_NoBook == Value.ref C_DearError) = false)
    (q_NoBook_NoNumber : PySem.W.subIn K (.ref C_NoBook) (.ref C_NoNumber) = some false)
    (n_NoBook_NoNumber : (Value.ref C_NoBook == Value.ref C_NoNumber) = false)
    (q_NoBook_NoBook : PySem.W.subIn K (.ref C_NoBook) (.ref C_NoBook) = some true)
    (q_NoBook_NoTree : PySem.W.subIn K (.ref C_NoBook) (.ref C_NoTree) = some false)
    (n_NoBook_NoTree : (Value.ref C_NoBook == Value.ref C_NoTree) = false)
    (q_NoBook_TooMany : PySem.W.subIn K (.ref C_NoBook) (.ref C_TooMany) = some false)
    (n_NoBook_TooMany : (Value.ref C_NoBook == Value.ref C_TooMany) = false)
    (q_NoBook_NoCount : PySem.W.subIn K (.ref C_NoBook) (.ref C_NoCount) = some false)
    (n_NoBook_NoCount : (Value.ref C_NoBook == Value.ref C_NoCount) = false)
    (q_NoBook_NoUndo : PySem.W.subIn K (.ref C_NoBook) (.ref C_NoUndo) = some false)
    (n_NoBook_NoUndo : (Value.ref C_NoBook == Value.ref C_NoUndo) = false)
    (q_NoBook_NoTurn : PySem.W.subIn K (.ref C_NoBook) (.ref C_NoTurn) = some false)
    (n_NoBook_NoTurn : (Value.ref C_NoBook == Value.ref C_NoTurn) = false)
    (q_NoBook_NoRow : PySem.W.subIn K (.ref C_NoBook) (.ref C_NoRow) = some false)
    (n_NoBook_NoRow : (Value.ref C_NoBook == Value.ref C_NoRow) = false)
    (q_NoBook_Unknown : PySem.W.subIn K (.ref C_NoBook) (.ref C_Unknown) = some false)
    (n_NoBook_Unknown : (Value.ref C_NoBook == Value.ref C_Unknown) = false)
    (q_NoBook_NoTongue : PySem.W.subIn K (.ref C_NoBook) (.ref C_NoTongue) = some false)
    (n_NoBook_NoTongue : (Value.ref C_NoBook == Value.ref C_NoTongue) = false)
    (q_NoBook_NoWants : PySem.W.subIn K (.ref C_NoBook) (.ref C_NoWants) = some false)
    (n_NoBook_NoWants : (Value.ref C_NoBook == Value.ref C_NoWants) = false)
    (q_NoBook_NoThing : PySem.W.subIn K (.ref C_NoBook) (.ref C_NoThing) = some false)
    (n_NoBook_NoThing : (Value.ref C_NoBook == Value.ref C_NoThing) = false)
    (q_NoBook_BadSign : PySem.W.subIn K (.ref C_NoBook) (.ref C_BadSign) = some false)
    (n_NoBook_BadSign : (Value.ref C_NoBook == Value.ref C_BadSign) = false)
    (q_NoBook_NoText : PySem.W.subIn K (.ref C_NoBook) (.ref C_NoText) = some false)
    (n_NoBook_NoText : (Value.ref C_NoBook == Value.ref C_NoText) = false)
    (q_NoBook_ValueError : PySem.W.subIn K (.ref C_NoBook) (.type "ValueError") = some true)
    (q_NoThing_DearError : PySem.W.subIn K (.ref C_NoThing) (.ref C_DearError) = some true)
    (n_NoThing_DearError : (Value.ref C_NoThing == Value.ref C_DearError) = false)
    (q_NoThing_NoNumber : PySem.W.subIn K (.ref C_NoThing) (.ref C_NoNumber) = some false)
    (n_NoThing_NoNumber : (Value.ref C_NoThing == Value.ref C_NoNumber) = false)
    (q_NoThing_NoBook : PySem.W.subIn K (.ref C_NoThing) (.ref C_NoBook) = some false)
    (n_NoThing_NoBook : (Value.ref C_NoThing == Value.ref C_NoBook) = false)
    (q_NoThing_NoTree : PySem.W.subIn K (.ref C_NoThing) (.ref C_NoTree) = some false)
    (n_NoThing_NoTree : (Value.ref C_NoThing == Value.ref C_NoTree) = false)
    (q_NoThing_TooMany : PySem.W.subIn K (.ref C_NoThing) (.ref C_TooMany) = some false)
    (n_NoThing_TooMany : (Value.ref C_NoThing == Value.ref C_TooMany) = false)
    (q_NoThing_NoCount : PySem.W.subIn K (.ref C_NoThing) (.ref C_NoCount) = some false)
    (n_NoThing_NoCount : (Value.ref C_NoThing == Value.ref C_NoCount) = false)
    (q_NoThing_NoUndo : PySem.W.subIn K (.ref C_NoThing) (.ref C_NoUndo) = some false)
    (n_NoThing_NoUndo : (Value.ref C_NoThing == Value.ref C_NoUndo) = false)
    (q_NoThing_NoTurn : PySem.W.subIn K (.ref C_NoThing) (.ref C_NoTurn) = some false)
    (n_NoThing_NoTurn : (Value.ref C_NoThing == Value.ref C_NoTurn) = false)
    (q_NoThing_NoRow : PySem.W.subIn K (.ref C_NoThing) (.ref C_NoRow) = some false)
    (n_NoThing_NoRow : (Value.ref C_NoThing == Value.ref C_NoRow) = false)
    (q_NoThing_Unknown : PySem.W.subIn K (.ref C_NoThing) (.ref C_Unknown) = some false)
    (n_NoThing_Unknown : (Value.ref C_NoThing == Value.ref C_Unknown) = false)
    (q_NoThing_NoTongue : PySem.W.subIn K (.ref C_NoThing) (.ref C_NoTongue) = some false)
    (n_NoThing_NoTongue : (Value.ref C_NoThing == Value.ref C_NoTongue) = false)
    (q_NoThing_NoWants : PySem.W.subIn K (.ref C_NoThing) (.ref C_NoWants) = some false)
    (n_NoThing_NoWants : (Value.ref C_NoThing == Value.ref C_NoWants) = false)
    (q_NoThing_NoThing : PySem.W.subIn K (.ref C_NoThing) (.ref C_NoThing) = some true)
    (q_NoThing_BadSign : PySem.W.subIn K (.ref C_NoThing) (.ref C_BadSign) = some false)
    (n_NoThing_BadSign : (Value.ref C_NoThing == Value.ref C_BadSign) = false)
    (q_NoThing_NoText : PySem.W.subIn K (.ref C_NoThing) (.ref C_NoText) = some false)
    (n_NoThing_NoText : (Value.ref C_NoThing == Value.ref C_NoText) = false)
    (q_NoThing_ValueError : PySem.W.subIn K (.ref C_NoThing) (.type "ValueError") = some true)
    (a1 : PySem.W.nsIn K mainGlobals "is_whole" = some (some (.ref f1))) (l1 : K.lookup f1 = some ⟨oc1, od1, .func (PySem.W.fnOf "is_whole" "is_whole" (defArgs s_is_whole) (defBody s_is_whole) (defScope s_is_whole) .none kV1 dc1 pm1 an1 cd1 ct1), sl1⟩) (c1 : PySem.W.codeIn K cd1 "is_whole" = true) (k1 : PySem.W.keepIn K (.ref f1) = true)
    (a2 : PySem.W.nsIn K mainGlobals "is_name" = some (some (.ref f2))) (l2 : K.lookup f2 = some ⟨oc2, od2, .func (PySem.W.fnOf "is_name" "is_name" (defArgs s_is_name) (defBody s_is_name) (defScope s_is_name) .none kV2 dc2 pm2 an2 cd2 ct2), sl2⟩) (c2 : PySem.W.codeIn K cd2 "is_name" = true) (k2 : PySem.W.keepIn K (.ref f2) = true)
    (a3 : PySem.W.nsIn K mainGlobals "look_at_plain" = some (some (.ref f3))) (l3 : K.lookup f3 = some ⟨oc3, od3, .func (PySem.W.fnOf "look_at_plain" "look_at_plain" (defArgs s_look_at_plain) (defBody s_look_at_plain) (defScope s_look_at_plain) .none kV3 dc3 pm3 an3 cd3 ct3), sl3⟩) (c3 : PySem.W.codeIn K cd3 "look_at_plain" = true) (k3 : PySem.W.keepIn K (.ref f3) = true)
    (a4 : PySem.W.nsIn K mainGlobals "write_row" = some (some (.ref f4))) (l4 : K.lookup f4 = some ⟨oc4, od4, .func (PySem.W.fnOf "write_row" "write_row" (defArgs s_write_row) (defBody s_write_row) (defScope s_write_row) .none kV4 dc4 pm4 an4 cd4 ct4), sl4⟩) (c4 : PySem.W.codeIn K cd4 "write_row" = true) (k4 : PySem.W.keepIn K (.ref f4) = true)
    (a5 : PySem.W.nsIn K mainGlobals "_law_pool" = some (some (.ref f5))) (l5 : K.lookup f5 = some ⟨oc5, od5, .func (PySem.W.fnOf "_law_pool" "_law_pool" (defArgs s__law_pool) (defBody s__law_pool) (defScope s__law_pool) .none kV5 dc5 pm5 an5 cd5 ct5), sl5⟩) (c5 : PySem.W.codeIn K cd5 "_law_pool" = true) (k5 : PySem.W.keepIn K (.ref f5) = true)
    (a6 : PySem.W.nsIn K mainGlobals "_law_take" = some (some (.ref f6))) (l6 : K.lookup f6 = some ⟨oc6, od6, .func (PySem.W.fnOf "_law_take" "_law_take" (defArgs s__law_take) (defBody s__law_take) (defScope s__law_take) .none kV6 dc6 pm6 an6 cd6 ct6), sl6⟩) (c6 : PySem.W.codeIn K cd6 "_law_take" = true) (k6 : PySem.W.keepIn K (.ref f6) = true)
    (a7 : PySem.W.nsIn K mainGlobals "_law_plain" = some (some (.ref f7))) (l7 : K.lookup f7 = some ⟨oc7, od7, .func (PySem.W.fnOf "_law_plain" "_law_plain" (defArgs s__law_plain) (defBody s__law_plain) (defScope s__law_plain) .none kV7 dc7 pm7 an7 cd7 ct7), sl7⟩) (c7 : PySem.W.codeIn K cd7 "_law_plain" = true) (k7 : PySem.W.keepIn K (.ref f7) = true)
    (a8 : PySem.W.nsIn K mainGlobals "_law_odd" = some (some (.ref f8))) (l8 : K.lookup f8 = some ⟨oc8, od8, .func (PySem.W.fnOf "_law_odd" "_law_odd" (defArgs s__law_odd) (defBody s__law_odd) (defScope s__law_odd) .none kV8 dc8 pm8 an8 cd8 ct8), sl8⟩) (c8 : PySem.W.codeIn K cd8 "_law_odd" = true) (k8 : PySem.W.keepIn K (.ref f8) = true)
    (a9 : PySem.W.nsIn K mainGlobals "_law_due" = some (some (.ref f9))) (l9 : K.lookup f9 = some ⟨oc9, od9, .func (PySem.W.fnOf "_law_due" "_law_due" (defArgs s__law_due) (defBody s__law_due) (defScope s__law_due) .none kV9 dc9 pm9 an9 cd9 ct9), sl9⟩) (c9 : PySem.W.codeIn K cd9 "_law_due" = true) (k9 : PySem.W.keepIn K (.ref f9) = true)
    (a10 : PySem.W.nsIn K mainGlobals "_law_place" = some (some (.ref f10))) (l10 : K.lookup f10 = some ⟨oc10, od10, .func (PySem.W.fnOf "_law_place" "_law_place" (defArgs s__law_place) (defBody s__law_place) (defScope s__law_place) .none kV10 dc10 pm10 an10 cd10 ct10), sl10⟩) (c10 : PySem.W.codeIn K cd10 "_law_place" = true) (k10 : PySem.W.keepIn K (.ref f10) = true)
    (a11 : PySem.W.nsIn K mainGlobals "_law_spoiled" = some (some (.ref f11))) (l11 : K.lookup f11 = some ⟨oc11, od11, .func (PySem.W.fnOf "_law_spoiled" "_law_spoiled" (defArgs s__law_spoiled) (defBody s__law_spoiled) (defScope s__law_spoiled) .none kV11 dc11 pm11 an11 cd11 ct11), sl11⟩) (c11 : PySem.W.codeIn K cd11 "_law_spoiled" = true) (k11 : PySem.W.keepIn K (.ref f11) = true)
    (a12 : PySem.W.nsIn K mainGlobals "law" = some (some (.ref f12))) (l12 : K.lookup f12 = some ⟨oc12, od12, .func (PySem.W.fnOf "law" "law" (defArgs s_law) (defBody s_law) (defScope s_law) .none kV12 dc12 pm12 an12 cd12 ct12), sl12⟩) (c12 : PySem.W.codeIn K cd12 "law" = true) (k12 : PySem.W.keepIn K (.ref f12) = true)
    (a13 : PySem.W.nsIn K mainGlobals "LETTERS" = some (some (.str "abcdefghijklmnopqrstuvwxyz" t13)))
    (a14 : PySem.W.nsIn K mainGlobals "LONGEST" = some (some (.int 8 t14)))
    (a15 : PySem.W.nsIn K mainGlobals "MOST_WORDS" = some (some (.int 20 t15)))
    (a16 : PySem.W.nsIn K mainGlobals "ValueError" = some none)
    (a17 : PySem.W.nsIn K mainGlobals "all" = some none)
    (a18 : PySem.W.nsIn K mainGlobals "bool" = some none)
    (a19 : PySem.W.nsIn K mainGlobals "enumerate" = some none)
    (a20 : PySem.W.nsIn K mainGlobals "int" = some none)
    (a21 : PySem.W.nsIn K mainGlobals "isinstance" = some none)
    (a22 : PySem.W.nsIn K mainGlobals "len" = some none)
    (a23 : PySem.W.nsIn K mainGlobals "list" = some none)
    (a24 : PySem.W.nsIn K mainGlobals "max" = some none)
    (a25 : PySem.W.nsIn K mainGlobals "min" = some none)
    (a26 : PySem.W.nsIn K mainGlobals "range" = some none)
    (a27 : PySem.W.nsIn K mainGlobals "str" = some none)
    (a28 : PySem.W.nsIn K mainGlobals "tuple" = some none)
    : Txt K mg :=
  ⟨⟨C_DearError, C_NoNumber, C_NoBook, C_NoTree, C_TooMany, C_NoCount, C_NoUndo, C_NoTurn, C_NoRow, C_Unknown, C_NoTongue, C_NoWants, C_NoThing, C_BadSign, C_NoText⟩,
   PySem.W.mg_of X G g_DearError,
   PySem.W.mg_of X G g_NoNumber,
   PySem.W.mg_of X G g_NoBook,
   PySem.W.mg_of X G g_NoTree,
   PySem.W.mg_of X G g_TooMany,
   PySem.W.mg_of X G g_NoCount,
   PySem.W.mg_of X G g_NoUndo,
   PySem.W.mg_of X G g_NoTurn,
   PySem.W.mg_of X G g_NoRow,
   PySem.W.mg_of X G g_Unknown,
   PySem.W.mg_of X G g_NoTongue,
   PySem.W.mg_of X G g_NoWants,
   PySem.W.mg_of X G g_NoThing,
   PySem.W.mg_of X G g_BadSign,
   PySem.W.mg_of X G g_NoText,
   ⟨PySem.W.mg_of X G g_NoBook, x1_NoBook, x2_NoBook, x3_NoBook, x4_NoBook, ⟨x5_NoBook, x6_NoBook, x3_NoBook, x7_NoBook, x8_NoBook, x9_NoBook, x10_NoBook, x11_NoBook⟩⟩,
   ⟨PySem.W.mg_of X G g_DearError, d1, d2, d3⟩,
   ⟨PySem.W.mg_of X G g_NoThing, ⟨⟨nm_NoThing, qn_NoThing, N_NoThing, bs_NoThing, _, sn_NoThing, sb_NoThing, ab_NoThing, col_NoThing, dd_NoThing, m0_NoThing, m1_NoThing, m2_NoThing, m3_NoThing, m5_NoThing, xl_NoThing, rfl⟩, sa_NoThing, x3_NoThing, x4_NoThing, x2_NoThing⟩, fn_NoThing, ⟨x5_NoThing, x6_NoThing, x3_NoThing, x7_NoThing, x8_NoThing, x9_NoThing, x10_NoThing, x11_NoThing⟩⟩,
   ⟨I_NoThing, _, i1_NoThing, i2_NoThing, fun_mk (st := s_NoThing___init__) i3_NoThing i4_NoThing i5_NoThing, (fun_mk (st := s_NoThing___init__) i3_NoThing i4_NoThing i5_NoThing).binds (ps := ["self", "place"]) fun _ _ _ _ _ _ us hl => match us, hl with | [_, _], _ => rfl⟩,
   kit_ref n_NoBook_DearError i_DearError t_DearError q_NoBook_DearError,
   kit_ref n_NoBook_NoNumber i_NoNumber t_NoNumber q_NoBook_NoNumber,
   kit_self,
   kit_ref n_NoBook_NoTree i_NoTree t_NoTree q_NoBook_NoTree,
   kit_ref n_NoBook_TooMany i_TooMany t_TooMany q_NoBook_TooMany,
   kit_ref n_NoBook_NoCount i_NoCount t_NoCount q_NoBook_NoCount,
   kit_ref n_NoBook_NoUndo i_NoUndo t_NoUndo q_NoBook_NoUndo,
   kit_ref n_NoBook_NoTurn i_NoTurn t_NoTurn q_NoBook_NoTurn,
   kit_ref n_NoBook_NoRow i_NoRow t_NoRow q_NoBook_NoRow,
   kit_ref n_NoBook_Unknown i_Unknown t_Unknown q_NoBook_Unknown,
   kit_ref n_NoBook_NoTongue i_NoTongue t_NoTongue q_NoBook_NoTongue,
   kit_ref n_NoBook_NoWants i_NoWants t_NoWants q_NoBook_NoWants,
   kit_ref n_NoBook_NoThing i_NoThing t_NoThing q_NoBook_NoThing,
   kit_ref n_NoBook_BadSign i_BadSign t_BadSign q_NoBook_BadSign,
   kit_ref n_NoBook_NoText i_NoText t_NoText q_NoBook_NoText,
   kit_val q_NoBook_ValueError,
   exm_ref2 b_DearError i_DearError t_DearError q_NoBook_DearError,
   kit_ref n_NoThing_DearError i_DearError t_DearError q_NoThing_DearError,
   kit_ref n_NoThing_NoNumber i_NoNumber t_NoNumber q_NoThing_NoNumber,
   kit_ref n_NoThing_NoBook i_NoBook t_NoBook q_NoThing_NoBook,
   kit_ref n_NoThing_NoTree i_NoTree t_NoTree q_NoThing_NoTree,
   kit_ref n_NoThing_TooMany i_TooMany t_TooMany q_NoThing_TooMany,
   kit_ref n_NoThing_NoCount i_NoCount t_NoCount q_NoThing_NoCount,
   kit_ref n_NoThing_NoUndo i_NoUndo t_NoUndo q_NoThing_NoUndo,
   kit_ref n_NoThing_NoTurn i_NoTurn t_NoTurn q_NoThing_NoTurn,
   kit_ref n_NoThing_NoRow i_NoRow t_NoRow q_NoThing_NoRow,
   kit_ref n_NoThing_Unknown i_Unknown t_Unknown q_NoThing_Unknown,
   kit_ref n_NoThing_NoTongue i_NoTongue t_NoTongue q_NoThing_NoTongue,
   kit_ref n_NoThing_NoWants i_NoWants t_NoWants q_NoThing_NoWants,
   kit_self,
   kit_ref n_NoThing_BadSign i_BadSign t_BadSign q_NoThing_BadSign,
   kit_ref n_NoThing_NoText i_NoText t_NoText q_NoThing_NoText,
   kit_val q_NoThing_ValueError,
   exm_ref2 b_DearError i_DearError t_DearError q_NoThing_DearError,
   ⟨f1, _, PySem.W.mg_of X G a1, fun_mk (st := s_is_whole) l1 c1 k1, (fun_mk (st := s_is_whole) l1 c1 k1).binds (ps := ["thing"]) fun _ _ _ _ _ _ us hl => match us, hl with | [_], _ => rfl⟩,
   ⟨f2, _, PySem.W.mg_of X G a2, fun_mk (st := s_is_name) l2 c2 k2, (fun_mk (st := s_is_name) l2 c2 k2).binds (ps := ["thing"]) fun _ _ _ _ _ _ us hl => match us, hl with | [_], _ => rfl⟩,
   ⟨f3, _, PySem.W.mg_of X G a3, fun_mk (st := s_look_at_plain) l3 c3 k3, (fun_mk (st := s_look_at_plain) l3 c3 k3).binds (ps := ["thing"]) fun _ _ _ _ _ _ us hl => match us, hl with | [_], _ => rfl⟩,
   ⟨f4, _, PySem.W.mg_of X G a4, fun_mk (st := s_write_row) l4 c4 k4, (fun_mk (st := s_write_row) l4 c4 k4).binds (ps := ["book", "row"]) fun _ _ _ _ _ _ us hl => match us, hl with | [_, _], _ => rfl⟩,
   ⟨f5, _, PySem.W.mg_of X G a5, fun_mk (st := s__law_pool) l5 c5 k5, (fun_mk (st := s__law_pool) l5 c5 k5).binds (ps := ["_law_script", "_law_k"]) fun _ _ _ _ _ _ us hl => match us, hl with | [_, _], _ => rfl⟩,
   ⟨f6, _, PySem.W.mg_of X G a6, fun_mk (st := s__law_take) l6 c6 k6, (fun_mk (st := s__law_take) l6 c6 k6).binds (ps := ["_law_pool_here", "_law_many"]) fun _ _ _ _ _ _ us hl => match us, hl with | [_, _], _ => rfl⟩,
   ⟨f7, _, PySem.W.mg_of X G a7, fun_mk (st := s__law_plain) l7 c7 k7, (fun_mk (st := s__law_plain) l7 c7 k7).binds (ps := ["_law_pool_here"]) fun _ _ _ _ _ _ us hl => match us, hl with | [_], _ => rfl⟩,
   ⟨f8, _, PySem.W.mg_of X G a8, fun_mk (st := s__law_odd) l8 c8 k8, (fun_mk (st := s__law_odd) l8 c8 k8).binds (ps := ["_law_pool_here", "_law_many"]) fun _ _ _ _ _ _ us hl => match us, hl with | [_, _], _ => rfl⟩,
   ⟨f9, _, PySem.W.mg_of X G a9, fun_mk (st := s__law_due) l9 c9 k9, (fun_mk (st := s__law_due) l9 c9 k9).binds (ps := ["_law_row", "_law_many"]) fun _ _ _ _ _ _ us hl => match us, hl with | [_, _], _ => rfl⟩,
   ⟨f10, _, PySem.W.mg_of X G a10, fun_mk (st := s__law_place) l10 c10 k10, (fun_mk (st := s__law_place) l10 c10 k10).binds (ps := ["_law_book", "_law_row"]) fun _ _ _ _ _ _ us hl => match us, hl with | [_, _], _ => rfl⟩,
   ⟨f11, _, PySem.W.mg_of X G a11, fun_mk (st := s__law_spoiled) l11 c11 k11, (fun_mk (st := s__law_spoiled) l11 c11 k11).binds (ps := ["_law_pool_here", "_law_row", "_law_many"]) fun _ _ _ _ _ _ us hl => match us, hl with | [_, _, _], _ => rfl⟩,
   ⟨f12, _, PySem.W.mg_of X G a12, fun_mk (st := s_law) l12 c12 k12, (fun_mk (st := s_law) l12 c12 k12).binds (ps := ["_law_script"]) fun _ _ _ _ _ _ us hl => match us, hl with | [_], _ => rfl⟩,
   ⟨_, PySem.W.mg_of X G a13⟩,
   ⟨_, PySem.W.mg_of X G a14⟩,
   ⟨_, PySem.W.mg_of X G a15⟩,
   PySem.W.mg_none_of X G a16,
   PySem.W.mg_none_of X G a17,
   PySem.W.mg_none_of X G a18,
   PySem.W.mg_none_of X G a19,
   PySem.W.mg_none_of X G a20,
   PySem.W.mg_none_of X G a21,
   PySem.W.mg_none_of X G a22,
   PySem.W.mg_none_of X G a23,
   PySem.W.mg_none_of X G a24,
   PySem.W.mg_none_of X G a25,
   PySem.W.mg_none_of X G a26,
   PySem.W.mg_none_of X G a27,
   PySem.W.mg_none_of X G a28⟩
theorem oi_NoThing {P : Program} {w : World} {K : PySem.W.Frag} {mg : Str → Option Value} {base : Heap} (T : Txt K mg) : OkI P w K mg base "NoThing" "place" T.A.NoThing := by
  obtain ⟨fI, fd, h1, h2, F, b⟩ := T.F_NoThing
  refine ⟨fI, fd, h1, h2, F.ok c_NoThing___init__ (fun vs H Q E h => ?_) (fun cdv A outer s H vs Q E hr h => ?_), b, T.X_NoThing⟩
  · obtain ⟨a, C, v, rfl, _⟩ := h
    rfl
  · obtain ⟨a, C, v, rfl, o, n, ha, fv, k⟩ := h
    refine ⟨_, (pss_cons (ps_expr (pe_drinit T.D_DearError (pa_cons (pv 0) (pa_cons (pe_joined (.cons pe_str (.cons (pe_fmtN (pv 1)) .nil))) pa_nil)))) (pss_one (ps_ost (pv 0) (pv 1)))), ?_⟩
    refine ⟨_, rfl, _, rfl, (by decide +kernel), _, rfl, fv, fun z hz => ⟨z, rfl, ?_, ?_⟩⟩
    · rw [str_len]
      exact Nat.le_trans (Nat.add_le_add_right (show _ ≤ 100 by decide +kernel) _) (sz_lit (by omega))
    · exact ⟨a, C, _, rfl, (by decide : 1 ≤ 1000), o, ha, _, rfl, _, rfl, a, C, rfl, o, n, .inl ⟨ha, fun dx hd ne => k dx hd ne⟩⟩

end Dear


namespace Dear
open PySem PySem.Spec PyProof.Rows L2
/-! ### author B's draws -/
def spPool (K : PySem.W.Frag) : Sp := fun vs H Q _ => ∃ (a : Addr) (ns : List Int) (k : Int), vs = [.ref a, .int k] ∧ SqL K H a (ns.map V.int) ∧ 0 ≤ k ∧ k ≤ 1000000 ∧ ∀ (l : Addr) (H' : Hp), H l = none → Same H H' → Src H' l → Q (.ref l) H'
def spName : Sp := fun vs H Q _ => ∃ (k s : Nat), vs = [.int k, .int s] ∧ k ≤ 1000 ∧ s ≤ 100000 ∧ ∀ H', Same H H' → Q (.str (txt (nameL k s))) H'
def spWants : Sp := fun vs H Q _ => ∃ (l : Addr) (m : Int), vs = [.ref l, .int m] ∧ Src H l ∧ 1 ≤ m ∧ m ≤ 20 ∧
  ∀ (p : Addr) (xs : List V) (ws : List (List Nat × Int)) (H' : Hp), H p = none → p ≠ l → But l H H' → Src H' l → H' p = some (.lst xs) → DtAll H' xs (ws.map wantD) → WsOk ws → (ws.length : Int) = m → Q (.ref p) H'
section
variable {P : Program} {w : World} {K : PySem.W.Frag} {mg : Str → Option Value} {base : Heap}
theorem o__law_pool (T : Txt K mg) : OkF P w K mg base CX0 1 "_law_pool" ["_law_script", "_law_k"] (spPool K) := by
  refine T.f__law_pool.ok c__law_pool (fun vs H Q E h => ?_) (fun f cdv A outer s H vs Q E hr h => ?_)
  · obtain ⟨a, ns, k, rfl, _⟩ := h
    rfl
  · obtain ⟨a, ns, k, rfl, hS, k0, k9, q⟩ := h
    refine ⟨_, (pss_cons (ps_set (i := 2) c__law_pool.nd rfl (Or.inl rfl) pe_int)
(C8.pss_cut (ps_if (pt_cmpR op_lt (pv 1) (pe_callB (call_len_seq_k K) (by rfl) T.b_len PySem.boot_len (pa_cons (pv 0) pa_nil)) (nomark _))
(pss_one (ps_set (i := 2) c__law_pool.nd rfl (Or.inl rfl) (pe_ix (ix_list_k K) (pv 0) (pv 1) (fun _ _ => rfl))))
pss_nil)
(pss_cons (ps_set (i := 3) c__law_pool.nd rfl (Or.inl rfl) (pe_op op_mod (pe_op op_mul (pe_op op_add (pe_op op_add (pe_op op_mod (pv 2) pe_int) (pe_op op_mul (pe_op op_mul pe_int (pv 1)) (pv 1))) pe_int) pe_int) pe_int))
(C8.pss_cut (ps_if (pt_cmpR op_lt (pv 2) (pe_op op_pow pe_int pe_int) (nomark _))
(pss_one (ps_set (i := 2) c__law_pool.nd rfl (Or.inl rfl) pe_int))
pss_nil)
(pss_one (ps_ret (pe_lst (pa_cons (pv 2) (pa_cons (pv 3) pa_nil))))))))), ?_⟩
    refine ⟨fun σ' H' => H' = H ∧ ∃ c : Int, σ' = [some (.ref a), some (.int k), some (.int c), none], ?_, ?_⟩
    · refine ⟨_, rfl, _, rfl, _, _, rfl, .inl hS, _, _, rfl, rfl, _, rfl, itd (fun c => ?_) fun _ => ⟨rfl, 0, rfl⟩⟩
      obtain ⟨x, hx, hm, _⟩ := at_lt k0 c
      obtain ⟨z, _, rfl⟩ := List.mem_map.mp hm
      exact ⟨_, rfl, _, rfl, _, _, _, _, rfl, rfl, hS, hx, rfl, z, rfl⟩
    rintro σ' H' ⟨rfl, c, rfl⟩
    refine ⟨_, rfl, _, _, rfl, rfl, (by show (0 : Int) < 1000000007; decide), _, rfl, _, _, rfl, rfl, .inl ⟨by decide, by decide⟩, _, rfl, _, _, rfl, rfl, .inr ⟨by omega, by omega⟩, _, _, rfl, rfl, _, _, rfl, rfl, _, _, rfl, rfl, .inr ⟨by decide, by decide⟩, _, _, rfl, rfl, (by show (0 : Int) < 2147483647; decide), ?_⟩
    have b0 : 0 ≤ ((c % 1000000007 + 15485863 * k * k + 3) * 39373) % 2147483647 := Int.emod_nonneg _ (by decide)
    have b1 : ((c % 1000000007 + 15485863 * k * k + 3) * 39373) % 2147483647 < 2147483647 := Int.emod_lt_of_pos _ (by decide)
    refine ⟨fun σ' H'' => H'' = H' ∧ ∃ c' : Int, 0 ≤ c' ∧ σ' = [some (.ref a), some (.int k), some (.int c'), some (.int (((c % 1000000007 + 15485863 * k * k + 3) * 39373) % 2147483647))], ?_, ?_⟩
    · refine ⟨_, rfl, _, _, rfl, rfl, ⟨by decide, by decide, by decide⟩, _, _, rfl, rfl, _, rfl, itd (fun _ => ⟨rfl, 0, by decide, rfl⟩) fun h => ⟨rfl, c, ?_, rfl⟩⟩
      have h : ¬ c < (10 : Int) ^ (18 : Nat) := h
      omega
    rintro σ' H'' ⟨rfl, c', hc', rfl⟩
    exact ⟨_, rfl, _, rfl, (by show 2 ≤ sizeLine; decide), fun l hl => q l _ hl (Same.upd hl) ⟨_, _, upd_same, hc', b0, b1⟩⟩
theorem o__law_take (T : Txt K mg) : OkF P w K mg base CX0 1 "_law_take" ["_law_pool_here", "_law_many"] spDraw := by
  refine T.f__law_take.ok c__law_take (fun vs H Q E h => ?_) (fun f cdv A outer s H vs Q E hr h => ?_)
  · obtain ⟨l, m, rfl, _⟩ := h
    rfl
  · obtain ⟨l, m, rfl, ⟨n, z, h1, hn, hz, hz2⟩, hm, hm9, q⟩ := h
    refine ⟨_, (pss_cons (ps_if (pt_cmpR op_gt (pe_ix (ix_list_k K) (pv 0) pe_int (fun _ _ => rfl)) pe_int (nomark _))
(pss_cons (ps_set (i := 2) c__law_take.nd rfl (Or.inl rfl) (pe_op op_mod (pe_ix (ix_list_k K) (pv 0) pe_int (fun _ _ => rfl)) (pv 1)))
(pss_cons (ps_asg (pe_op op_fdivW (pe_ix (ix_list_k K) (pv 0) pe_int (fun _ _ => rfl)) (pv 1)) (pg_sub (pv 0) pe_int set_list))
(pss_one (ps_ret (pv 2)))))
pss_nil)
(pss_cons (ps_asg (pe_op op_mod (pe_op op_add (pe_op op_mul (pe_ix (ix_list_k K) (pv 0) pe_int (fun _ _ => rfl)) pe_int) pe_int) pe_int) (pg_sub (pv 0) pe_int set_list))
(pss_one (ps_ret (pe_op op_mod (pe_op op_fdivW (pe_op op_mod (pe_op op_mul (pe_ix (ix_list_k K) (pv 0) pe_int (fun _ _ => rfl)) (pe_ix (ix_list_k K) (pv 0) pe_int (fun _ _ => rfl))) pe_int) pe_int) (pv 1)))))), ?_⟩
    refine ⟨_, rfl, _, _, _, _, rfl, rfl, SqL.of h1, rfl, _, _, rfl, rfl, _, rfl, itd (fun c => ?_) fun c => ?_⟩
    · refine ⟨_, rfl, _, _, _, _, rfl, rfl, SqL.of h1, rfl, _, rfl, _, _, rfl, rfl, hm, ?_⟩
      refine ⟨_, rfl, _, _, _, _, rfl, rfl, SqL.of h1, rfl, _, rfl, _, _, rfl, rfl, ⟨hm, hm9⟩, _, rfl, _, _, _, _, rfl, rfl, h1, rfl, ?_⟩
      refine ⟨_, rfl, ?_⟩
      exact q _ _ (Int.emod_nonneg _ (by omega)) (Int.emod_lt_of_pos _ hm) But.upd ⟨_, _, upd_same, Int.ediv_nonneg (by omega) (by omega), hz, hz2⟩
    · refine ⟨_, rfl, _, _, _, _, rfl, rfl, SqL.of h1, rfl, _, _, rfl, rfl, .inr ⟨by decide, by decide⟩, _, _, rfl, rfl, _, _, rfl, rfl, (by show (0 : Int) < 2147483647; decide), _, rfl, _, _, _, _, rfl, rfl, h1, rfl, ?_⟩
      have b0 : 0 ≤ (z * 48271 + 11) % 2147483647 := Int.emod_nonneg _ (by decide)
      have b1 : (z * 48271 + 11) % 2147483647 < 2147483647 := Int.emod_lt_of_pos _ (by decide)
      refine ⟨_, rfl, _, _, _, _, rfl, rfl, SqL.of upd_same, rfl, _, rfl, _, _, _, _, rfl, rfl, SqL.of upd_same, rfl, _, _, rfl, rfl, .inl ⟨by omega, by omega⟩, _, _, rfl, rfl, (by show (0 : Int) < 2147483629; decide), _, _, rfl, rfl, ⟨by decide, by decide⟩, _, rfl, _, _, rfl, rfl, hm, ?_⟩
      exact q _ _ (Int.emod_nonneg _ (by omega)) (Int.emod_lt_of_pos _ hm) But.upd ⟨_, _, upd_same, hn, b0, b1⟩
end
end Dear

namespace Dear
open PySem PySem.Spec PyProof.Rows L2
def spPlainB : Sp := fun vs H Q _ => ∃ l : Addr, vs = [.ref l] ∧ Src H l ∧ ∀ (p : Addr) (bs : List (List Nat)) (H' : Hp), H p = none → p ≠ l → But l H H' → Src H' l → H' p = some (.lst (vsT bs)) → BkOk bs → Q (.ref p) H'
theorem step4 {v : V} (h : v ∈ [V.int 1, V.int 3, V.int 5, V.int 7]) : ∃ m : Nat, v = .int (m : Nat) ∧ (m = 1 ∨ m = 3 ∨ m = 5 ∨ m = 7) := by
  simp only [List.mem_cons, List.not_mem_nil, or_false] at h
  rcases h with rfl | rfl | rfl | rfl
  · exact ⟨1, rfl, by decide⟩
  · exact ⟨3, rfl, by decide⟩
  · exact ⟨5, rfl, by decide⟩
  · exact ⟨7, rfl, by decide⟩
theorem vsT_len (bs : List (List Nat)) : (vsT bs).length = bs.length := List.length_map ..
theorem dp_vsT {K : PySem.W.Frag} {H : Hp} : ∀ bs : List (List Nat), DpAll K H (vsT bs) (bs.map fun w => PyData.str (txt w))
  | [] => .nil
  | _ :: bs => .cons (.str _) (dp_vsT bs)
theorem EnOk.shaped {bs : List (List Nat)} (h : ∀ w ∈ bs, WdOk 0 w) : SeqAt.shaped (.list (bs.map fun w => PyData.str (txt w))) = true := by
  have e : (bs.map fun w => PyData.str (txt w)) = (bs.map txt).map PyData.str := by
    rw [List.map_map]
    rfl
  rw [e]
  refine shaped_strs fun y hy => ?_
  obtain ⟨w, hw, rfl⟩ := List.mem_map.mp hy
  intro c hc
  rw [txt_list] at hc
  exact in_letters_asc ((h w hw).l c hc)
theorem WdOk.z {n : Nat} {w : List Nat} (h : WdOk n w) : WdOk 0 w := ⟨h.l, Nat.zero_le _, h.hi⟩
theorem erase_map {α β : Type} (f : α → β) : ∀ (l : List α) (i : Nat), (l.map f).eraseIdx i = (l.eraseIdx i).map f
  | [], _ => rfl
  | _ :: _, 0 => rfl
  | a :: l, i + 1 => congrArg (f a :: ·) (erase_map f l i)
theorem perm_erase {α : Type} : ∀ {l : List α} {i : Nat} {x : α}, l[i]? = some x → l.Perm (x :: l.eraseIdx i)
  | [], _, _, h => by simp at h
  | a :: l, 0, x, h => by
    have : a = x := by simpa using h
    subst this
    exact List.Perm.refl _
  | a :: l, i + 1, x, h => by
    have ih := perm_erase (l := l) (i := i) (x := x) (by simpa using h)
    exact (ih.cons a).trans (List.Perm.swap x a _)
theorem perm_pop {α : Type} {l : List α} {i : Nat} {x : α} (h : l[i]? = some x) (acc : List α) : (acc ++ l).Perm ((acc ++ [x]) ++ l.eraseIdx i) := by
  rw [List.append_assoc]
  exact (perm_erase h).append_left acc
section
variable {P : Program} {w : World} {K : PySem.W.Frag} {mg : Str → Option Value} {base : Heap}
theorem o__law_plain (T : Txt K mg) : OkF P w K mg base CX0 2 "_law_plain" ["_law_pool_here"] spPlainB := by
  have o__law_take := o__law_take (P := P) (w := w) (base := base) T
  refine T.f__law_plain.ok c__law_plain (fun vs H Q E h => ?_) (fun f cdv A outer s H vs Q E hr h => ?_)
  · obtain ⟨l, rfl, _⟩ := h
    rfl
  · obtain ⟨l, rfl, S, k⟩ := h
    refine ⟨_, (pss_cons (ps_set (i := 1) c__law_plain.nd rfl (Or.inl rfl) (pe_lst (pa_cons pe_str pa_nil)))
(pss_cons (ps_for PassesOwn.never rfl (pi_range1 (by rfl) T.b_range (pa_cons (pe_c o__law_take hr (pa_cons (pv 0) (pa_cons pe_int pa_nil))) pa_nil)) (pg_name (i := 2) c__law_plain.nd rfl (Or.inl rfl))
(pss_cons (ps_set (i := 3) c__law_plain.nd rfl (Or.inl rfl) (pe_c o__law_take hr (pa_cons (pv 0) (pa_cons (pe_callB (call_len_seq_k K) (by rfl) T.b_len PySem.boot_len (pa_cons (pv 1) pa_nil)) pa_nil))))
(pss_cons (ps_set (i := 4) c__law_plain.nd rfl (Or.inl rfl) (pe_op op_add pe_int (pe_c o__law_take hr (pa_cons (pv 0) (pa_cons pe_int pa_nil)))))
(pss_cons (ps_set (i := 5) c__law_plain.nd rfl (Or.inr rfl) (pe_c o__law_take hr (pa_cons (pv 0) (pa_cons pe_int pa_nil))))
(pss_cons (ps_set (i := 6) c__law_plain.nd rfl (Or.inr rfl) (pe_ix (ix_list_k K) (pe_lst (pa_cons pe_int (pa_cons pe_int (pa_cons pe_int (pa_cons pe_int pa_nil))))) (pe_c o__law_take hr (pa_cons (pv 0) (pa_cons pe_int pa_nil))) (fun _ _ => rfl)))
(pss_cons (ps_set (i := 7) c__law_plain.nd rfl (Or.inr rfl) (pe_ix (ix_list_k K) (pv 1) (pv 3) (fun _ _ => rfl)))
(pss_one (ps_if (PW.pt (pw_and (pt_cmpR op_lt (pe_callB call_len_str (by rfl) T.b_len PySem.boot_len (pa_cons (pv 7) pa_nil)) pe_int (nomark _)) (pw_and1 (pt_cmpR op_lt (pe_op op_add (pe_callB (call_len_seq_k K) (by rfl) T.b_len PySem.boot_len (pa_cons (pv 1) pa_nil)) (pv 4)) pe_int (nomark _)))))
(pss_cons (ps_setLc (i := 8) (own := [("_law_j", 10)]) (g := gName 10) (tt := tYes) (by rfl) c__law_plain.nd rfl rfl (sw_true rfl rfl rfl (by decide +kernel)) (pi_range1 (by rfl) T.b_range (pa_cons (pv 4) pa_nil)) (blkOk_by (own := [("_law_j", 10)]) (N := n__law_plain) (sc := defScope s__law_plain) (by decide +kernel)) (fun _ _ _ _ _ => (pg_name (i := 10) c__law_plain.nd rfl (Or.inl rfl))) (fun _ _ _ _ _ => pts_nil) (fun _ _ _ _ _ => (pe_ix ix_str pe_str (pe_op op_mod (pe_op op_add (pv 5) (pe_op op_mul (pv 6) (pv 10))) pe_int) (fun _ _ => rfl))))
(pss_one (ps_set (i := 1) c__law_plain.nd rfl (Or.inl rfl) (pe_op op_cat (pe_op op_cat (pe_slice (sl_list_k K) (pv 1) po_none (po_some (pv 3))) (pe_lc (own := [("_law_letter", 11)]) (g := gName 11) (tt := tYes) (by rfl) c__law_plain.nd (pi_list_k K (pv 8)) (blkOk_by (own := [("_law_letter", 11)]) (N := n__law_plain) (sc := defScope s__law_plain) (by decide +kernel)) (fun _ _ _ _ _ => (pg_name (i := 11) c__law_plain.nd rfl (Or.inl rfl))) (fun _ _ _ _ _ => pts_nil) (fun _ _ _ _ _ => (pe_op op_add_str (pv 7) (pv 11))))) (pe_slice (sl_list_k K) (pv 1) (po_some (pe_op op_add (pv 3) pe_int)) po_none)))))
pss_nil))))))))
(C8.pss_cut (ps_if (pt_cmpR (op_eqD_k K hr.units) (pv 1) (pe_lst (pa_cons pe_str pa_nil)) (nomark _))
(pss_one (ps_set (i := 1) c__law_plain.nd rfl (Or.inl rfl) (pe_lst (pa_cons (pe_op op_repS (pe_ix ix_str pe_str (pe_c o__law_take hr (pa_cons (pv 0) (pa_cons pe_int pa_nil))) (fun _ _ => rfl)) (pe_op op_add pe_int (pe_c o__law_take hr (pa_cons (pv 0) (pa_cons pe_int pa_nil))))) pa_nil))))
pss_nil)
(pss_cons (ps_set (i := 3) c__law_plain.nd rfl (Or.inl rfl) (pe_c o__law_take hr (pa_cons (pv 0) (pa_cons (pe_callB (call_len_seq_k K) (by rfl) T.b_len PySem.boot_len (pa_cons (pv 1) pa_nil)) pa_nil))))
(pss_cons (ps_set (i := 6) c__law_plain.nd rfl (Or.inr rfl) (pe_c o__law_take hr (pa_cons (pv 0) (pa_cons pe_int pa_nil))))
(pss_cons (ps_set (i := 9) c__law_plain.nd rfl (Or.inl rfl) (pe_lst pa_nil))
(pss_cons (ps_while PassesOwn.never (pt_cmpR (op_neD_k K hr.units) (pv 1) (pe_lst pa_nil) (nomark _))
(pss_one (ps_expr (pe_bm PySem.F.plainAttrs_list PySem.F.slot_list_append PySem.F.type_list_append mt_append (pv 9) (pa_cons (pe_bm PySem.F.plainAttrs_list PySem.F.slot_list_pop PySem.F.type_list_pop mt_popAt (pv 1) (pa_cons (pe_op op_mod (pe_op op_add (pv 3) (pe_op op_mul (pv 6) (pe_callB (call_len_seq_k K) (by rfl) T.b_len PySem.boot_len (pa_cons (pv 9) pa_nil)))) (pe_callB (call_len_seq_k K) (by rfl) T.b_len PySem.boot_len (pa_cons (pv 1) pa_nil))) pa_nil)) pa_nil)))))
(pss_one (ps_ret (pv 9)))))))))), ?_⟩
    refine ⟨(by show 1 ≤ sizeLine; decide), fun q0 hq0 => ?_⟩
    have u0 := Same.upd (o := .lst [.str ""]) hq0
    have S0 := S.same u0
    have z26 : letters.length ≤ sizeLine := by decide +kernel
    refine ⟨_, rfl, l, 13, rfl, S0, by decide, log_le 13 (by decide), fun m H1 m0 m1 B1 S1 => ?_⟩
    refine ⟨m, rfl, by omega, by omega, for_range (lo := 0) (n := m.toNat) (fun j σ H' => But l H H' ∧ Src H' l ∧ ∃ (q : Addr) (bs : List (List Nat)) (v2 v3 v4 v5 v6 v7 v8 v9 v10 v11 : Option V), σ = [some (.ref l), some (.ref q), v2, v3, v4, v5, v6, v7, v8, v9, v10, v11] ∧ H q = none ∧ q ≠ l ∧ H' q = some (.lst (vsT bs)) ∧ EnOk bs)
      ⟨(But.of u0).trans B1, S1, q0, [[]], _, _, _, _, _, _, _, _, _, _, rfl, hq0, S.ne hq0, B1 _ _ upd_same (S.ne hq0), EnOk.start⟩ ?_ ?_⟩
    · rintro j σ H2 hj ⟨B2, S2, q, bs, v2, v3, v4, v5, v6, v7, v8, v9, v10, v11, rfl, hq, nq, hq2, en⟩
      have bl := vsT_len bs
      have l1 := en.l1
      have l20 := en.l20
      refine ⟨_, rfl, _, rfl, _, _, rfl, .inl (SqL.of hq2), l, _, rfl, S2, by omega, log_le 20 (by omega), fun at_ H3 a0 a1 B3 S3 => ?_⟩
      obtain ⟨an, rfl⟩ := Int.eq_ofNat_of_zero_le a0
      refine ⟨_, rfl, l, 8, rfl, S3, by decide, log_le 8 (by decide), fun my H4 my0 my1 B4 S4 => ⟨_, _, rfl, rfl, ?_⟩⟩
      refine ⟨_, rfl, l, 26, rfl, S4, by decide, log_le 26 (by decide), fun sh H5 sh0 sh1 B5 S5 => ?_⟩
      obtain ⟨sn, rfl⟩ := Int.eq_ofNat_of_zero_le sh0
      refine ⟨(by show 4 ≤ sizeLine; decide), fun p4 hp4 => ?_⟩
      have u5 := Same.upd (o := .lst [.int 1, .int 3, .int 5, .int 7]) hp4
      have n4 : p4 ≠ l := S5.ne hp4
      refine ⟨_, rfl, l, 4, rfl, S5.same u5, by decide, log_le 4 (by decide), fun r6 H6 r60 r61 B6 S6 => ?_⟩
      obtain ⟨x, hx, hm, _⟩ := at_lt (xs := [V.int 1, V.int 3, V.int 5, V.int 7]) r60 r61
      obtain ⟨st, rfl, hst⟩ := step4 hm
      refine ⟨_, _, _, _, rfl, rfl, SqL.of (B6 _ _ upd_same n4), hx, ?_⟩
      have B26 : But l H2 H6 := (((B3.trans B4).trans B5).trans (.of u5)).trans B6
      have hq6 := B26 _ _ hq2 nq
      have B06 := B2.trans B26
      obtain ⟨b, hb⟩ : ∃ b, bs[an]? = some b := ⟨bs[an]'(by omega), List.getElem?_eq_getElem _⟩
      have wb := en.all b (List.mem_of_getElem? hb)
      have hbv : (vsT bs)[an]? = some (.str (txt b)) := by
        unfold vsT
        rw [List.getElem?_map, hb]
        rfl
      have bz : (txt b).length ≤ sizeLine := sz_lit (by rw [txt_length]; have := wb.hi; omega)
      refine ⟨_, rfl, _, rfl, _, _, _, _, rfl, rfl, SqL.of hq6, atI_nat hbv, ?_⟩
      refine ⟨_, rfl, _, rfl, bz, _, _, rfl, rfl, _, rfl, itd (fun c1 => ?_) fun c1 => ?_⟩
      · refine ⟨_, rfl, _, _, rfl, .inl (SqL.of hq6), _, rfl, _, _, rfl, rfl, _, _, rfl, rfl, _, rfl, itd (fun c2 => ?_) fun c2 => ?_⟩
        · have c1 : ((txt b).length : Int) < 8 := c1
          have c2 : ((vsT bs).length : Int) + (1 + my) < 22 := c2
          rw [txt_length] at c1
          obtain ⟨mn, rfl⟩ := Int.eq_ofNat_of_zero_le my0
          refine ⟨_, rfl, _, rfl, by omega, by omega, fun pD hD => lc_range (lo := 0) (n := (1 + (mn : Int)).toNat) (fun i H' => Same H6 H' ∧ H' pD = some (.lst (((List.range i).map (lettB sn st)).map fun c => V.str (txt [c])))) ⟨Same.upd hD, upd_same⟩ ?_ ?_⟩
          · rintro i H' hi ⟨s7, e7⟩
            rw [Int.zero_add]
            have i8 : i < 8 := by omega
            have ei : ((sn : Int) + (st : Int) * (i : Int)) % 26 = (((sn + st * i) % 26 : Nat) : Int) := by
              rw [Int.natCast_emod, Int.natCast_add, Int.natCast_mul]
              rfl
            refine ⟨rfl, _, rfl, _, rfl, _, rfl, _, _, rfl, rfl, .inl ⟨by omega, by omega⟩, _, _, rfl, rfl, _, _, rfl, rfl, (by show (0 : Int) < 26; decide), letters, (((sn + st * i) % 26 : Nat) : Int), lettB sn st i, rfl, (by show V.int _ = V.int _; rw [ei]), z26, letN_atI (Nat.mod_lt _ (by decide)), ?_⟩
            refine ⟨_, e7, ?_, ?_, ?_⟩
            · rw [List.length_map, List.length_map, List.length_range]
              exact small1000 (by omega)
            · intro b9 o9 hb9
              rw [upd_ne (ne_of_none hb9 hD)]
              exact s7 _ _ hb9
            · rw [upd_same, List.range_succ, List.map_append, List.map_append]
              rfl
          rintro H7 ⟨s7, e7⟩
          rw [show (1 + (mn : Int)).toNat = mn + 1 by omega] at e7
          have hq7 := s7 _ _ hq6
          refine ⟨_, rfl, _, rfl, _, rfl, _, _, rfl, SqL.of hq7, fun t1 ht1 => ?_⟩
          rw [cutV_pre]
          have u1 := Same.upd (o := .lst ((vsT bs).take an)) ht1
          have e1 : (upd H7 t1 (.lst ((vsT bs).take an))) t1 = some (.lst ((vsT bs).take an)) := upd_same
          generalize upd H7 t1 (.lst ((vsT bs).take an)) = H8 at u1 e1 ⊢
          have e8 := u1 _ _ e7
          refine ⟨_, rfl, pD, rfl, ⟨_, SqL.of e8⟩, fun pW hW => lc_list (K := K) (a := pD) (xs := ((List.range (mn + 1)).map (lettB sn st)).map fun c => V.str (txt [c])) (fun i H' => Same H8 H' ∧ H' pW = some (.lst (vsT ((((List.range (mn + 1)).map (lettB sn st)).take i).map fun c => b ++ [c])))) ⟨Same.upd hW, upd_same⟩ (fun i H' _ e => SqL.of (e.1 _ _ e8)) ?_ ?_⟩
          · rintro i x H' hx ⟨s9, e9⟩
            obtain ⟨c, hc, rfl⟩ : ∃ c, ((List.range (mn + 1)).map (lettB sn st))[i]? = some c ∧ x = .str (txt [c]) := by
              rw [List.getElem?_map] at hx
              cases q9 : ((List.range (mn + 1)).map (lettB sn st))[i]? with
              | none => rw [q9] at hx; cases hx
              | some c => rw [q9] at hx; exact ⟨c, rfl, (Option.some.inj hx).symm⟩
            have il : i < mn + 1 := by
              have := (List.getElem?_eq_some_iff.mp hc).1
              rw [List.length_map, List.length_range] at this
              exact this
            refine ⟨rfl, _, rfl, _, rfl, _, _, rfl, rfl, sz_lit (by rw [txt_length, txt_length]; show _ + 1 ≤ 1000; omega), ?_⟩
            rw [txt_app]
            refine ⟨_, e9, ?_, ?_, ?_⟩
            · rw [vsT_len, List.length_map, List.length_take]
              exact small1000 (by omega)
            · intro b9 o9 hb9
              rw [upd_ne (ne_of_none hb9 hW)]
              exact s9 _ _ hb9
            · rw [upd_same, take_more hc, List.map_append]
              unfold vsT
              rw [List.map_append]
              rfl
          rintro H9 ⟨s9, e9⟩
          rw [List.take_of_length_le (by simp)] at e9
          have e1' := s9 _ _ e1
          have lm : ((List.range (mn + 1)).map (lettB sn st)).length = mn + 1 := by rw [List.length_map, List.length_range]
          refine ⟨t1, pW, _, _, rfl, rfl, e1', e9, sz_lit ?_, fun t2 ht2 => ?_⟩
          · rw [vsT_len, List.length_map, lm, List.length_take]
            omega
          have u2 := Same.upd (o := .lst ((vsT bs).take an ++ vsT (((List.range (mn + 1)).map (lettB sn st)).map fun c => b ++ [c]))) ht2
          have hq9 := s9 _ _ (u1 _ _ hq7)
          refine ⟨_, rfl, _, rfl, _, _, rfl, rfl, _, rfl, _, _, rfl, SqL.of (u2 _ _ hq9), fun t3 ht3 => ?_⟩
          rw [show ((an : Int) + 1) = ((an + 1 : Nat) : Int) by omega, cutV_from]
          have u3 := Same.upd (o := .lst ((vsT bs).drop (an + 1))) ht3
          refine ⟨t2, t3, _, _, rfl, rfl, u3 _ _ upd_same, upd_same, sz_lit ?_, fun t4 ht4 => ?_⟩
          · rw [List.length_append, vsT_len, List.length_map, lm, List.length_take, List.length_drop]
            omega
          have u4 := Same.upd (o := .lst ((vsT bs).take an ++ vsT (((List.range (mn + 1)).map (lettB sn st)).map fun c => b ++ [c]) ++ (vsT bs).drop (an + 1))) ht4
          have s69 := (s7.trans u1).trans s9
          have s6x := s69.trans ((u2.trans u3).trans u4)
          have n4t : H6 t4 = none := same_none (s69.trans (u2.trans u3)) ht4
          have n4l : t4 ≠ l := S6.ne n4t
          refine ⟨B06.trans (.of s6x), S6.same s6x, t4, bs.take an ++ ((List.range (mn + 1)).map (lettB sn st)).map (fun c => b ++ [c]) ++ bs.drop (an + 1), _, _, _, _, _, _, _, _, _, _, rfl, B06.none n4t n4l, n4l, ?_, ?_⟩
          · rw [upd_same]
            unfold vsT
            rw [List.map_append, List.map_append, List.map_take, List.map_drop]
          · have split : bs = bs.take an ++ [b] ++ bs.drop (an + 1) := by
              rw [← take_more hb, List.take_append_drop]
            rw [split] at en
            refine en.step (by omega) (lettB_nodup hst (by omega)) (fun c hc => ?_) (by rw [lm]; omega) ?_
            · obtain ⟨j9, _, rfl⟩ := List.mem_map.mp hc
              exact lettB_mem
            · rw [lm, List.length_take, List.length_drop]
              omega
        · exact ⟨B06, S6, q, bs, _, _, _, _, _, _, _, _, _, _, rfl, hq, nq, hq6, en⟩
      · exact ⟨B06, S6, q, bs, _, _, _, _, _, _, _, _, _, _, rfl, hq, nq, hq6, en⟩
    · rintro σ H2 ⟨B2, S2, q, bs, v2, v3, v4, v5, v6, v7, v8, v9, v10, v11, rfl, hq, nq, hq2, en⟩
      refine ⟨fun σ' H' => But l H H' ∧ Src H' l ∧ ∃ (q : Addr) (bs : List (List Nat)) (v2 v3 v4 v5 v6 v7 v8 v9 v10 v11 : Option V), σ' = [some (.ref l), some (.ref q), v2, v3, v4, v5, v6, v7, v8, v9, v10, v11] ∧ H q = none ∧ q ≠ l ∧ H' q = some (.lst (vsT bs)) ∧ BkOk bs, ?_, ?_⟩
      · refine ⟨_, rfl, (by show 1 ≤ sizeLine; decide), fun pE hE => ?_⟩
        have u3 := Same.upd (o := .lst [.str ""]) hE
        have S3 := S2.same u3
        have B3 : But l H (upd H2 pE (.lst [.str ""])) := B2.trans (.of u3)
        refine ⟨_, _, .lst (SqL.of (u3 _ _ hq2)) (dp_vsT bs), .lst (SqL.of upd_same) (dp_vsT [[]]), EnOk.shaped en.all, EnOk.shaped EnOk.start.all, _, rfl, itb (fun e => ?_) fun e => ?_⟩
        · refine ⟨_, rfl, l, 26, rfl, S3, by decide, log_le 26 (by decide), fun r H4 r0 r1 B4 S4 => ?_⟩
          obtain ⟨rn, rfl⟩ := Int.eq_ofNat_of_zero_le r0
          refine ⟨letters, _, letN rn, rfl, rfl, z26, letN_atI (by omega), _, rfl, l, 8, rfl, S4, by decide, log_le 8 (by decide), fun y H5 y0 y1 B5 S5 => ⟨_, _, rfl, rfl, ?_⟩⟩
          refine ⟨[letN rn], _, rfl, rfl, by omega, by omega, (by show 1 ≤ 1000; decide), (by show 1 ≤ sizeLine; decide), fun t ht => ?_⟩
          have u6 := Same.upd (o := .lst [.str (txt (repT [letN rn] (1 + y).toNat))]) ht
          have B6 := ((B3.trans B4).trans B5)
          have ntl : t ≠ l := S5.ne ht
          refine ⟨B6.trans (.of u6), S5.same u6, t, [repT [letN rn] (1 + y).toNat], _, _, _, _, _, _, _, _, _, _, rfl, B6.none ht ntl, ntl, upd_same, List.pairwise_singleton _ _, fun w hw => ?_, Nat.le_refl _, (by decide : 1 ≤ 20)⟩
          have : w = repT [letN rn] (1 + y).toNat := by simpa using hw
          subst this
          refine ⟨fun c hc => ?_, ?_, ?_⟩
          · obtain ⟨l9, hl9, hc9⟩ := List.mem_flatten.mp hc
            have := List.eq_of_mem_replicate hl9
            subst this
            have : c = letN rn := by simpa using hc9
            subst this
            exact letN_mem (by omega)
          · rw [repT_len]
            show 1 ≤ (1 + y).toNat * 1
            omega
          · rw [repT_len]
            show (1 + y).toNat * 1 ≤ 8
            omega
        · refine ⟨B3, S3, q, bs, _, _, _, _, _, _, _, _, _, _, rfl, hq, nq, u3 _ _ hq2, en.book fun z => ?_⟩
          subst z
          rw [eqv_same (EnOk.shaped EnOk.start.all)] at e
          cases e
      rintro σ' H3 ⟨B3, S3, q, bs, v2, v3, v4, v5, v6, v7, v8, v9, v10, v11, rfl, hq, nq, hq3, bk⟩
      have bl := vsT_len bs
      have l1 := bk.l1
      have l20 := bk.l20
      refine ⟨_, rfl, _, rfl, _, _, rfl, .inl (SqL.of hq3), l, _, rfl, S3, by omega, log_le 20 (by omega), fun at_ H4 a0 a1 B4 S4 => ?_⟩
      refine ⟨_, rfl, l, 9, rfl, S4, by decide, log_le 9 (by decide), fun st H5 st0 st1 B5 S5 => ?_⟩
      refine ⟨(by show 0 ≤ sizeLine; decide), fun pF hF => ?_⟩
      have B35 := B4.trans B5
      have hq5 := B35 _ _ hq3 nq
      have u6 := Same.upd (o := .lst []) hF
      have nF : pF ≠ l := S5.ne hF
      have hqF : H pF = none := (B3.trans B35).none hF nF
      have nqF : q ≠ pF := fun z => by
        subst z
        rw [hq5] at hF
        cases hF
      refine while_by (fun σ H' => But l H H' ∧ Src H' l ∧ ∃ (acc es : List (List Nat)) (v2 v4 v5 v7 v8 v10 v11 : Option V), σ = [some (.ref l), some (.ref q), v2, some (.int at_), v4, v5, some (.int st), v7, v8, some (.ref pF), v10, v11] ∧ H' q = some (.lst (vsT es)) ∧ H' pF = some (.lst (vsT acc)) ∧ bs.Perm (acc ++ es))
        (fun _ H' => match H' q with | some (.lst xs) => xs.length | _ => 0)
        ⟨(B3.trans B35).trans (.of u6), S5.same u6, [], bs, _, _, _, _, _, _, _, rfl, u6 _ _ hq5, upd_same, List.Perm.refl _⟩ ?_ ?_
      · rintro σ H6 ⟨B6, S6, acc, es, v2, v4, v5, v7, v8, v10, v11, rfl, hq6, hF6, pm⟩
        have pl := pm.length_eq
        rw [List.length_append] at pl
        have esl := vsT_len es
        have acl := vsT_len acc
        refine ⟨_, rfl, (by show 0 ≤ sizeLine; decide), fun pE hE => ?_⟩
        have u7 := Same.upd (o := .lst []) hE
        have esOk : ∀ w ∈ es, WdOk 0 w := fun w hw => (bk.all w (pm.mem_iff.mpr (List.mem_append_right _ hw))).z
        refine ⟨_, _, .lst (SqL.of (u7 _ _ hq6)) (dp_vsT es), .lst (SqL.of upd_same) .nil, EnOk.shaped esOk, shaped_nil, ?_⟩
        rw [eqv_nil]
        cases es with
        | nil =>
          refine ⟨_, rfl, iteF ⟨_, rfl, ?_⟩⟩
          have B7 := B6.trans (.of u7)
          refine k pF acc _ hqF nF B7 (S6.same u7) (u7 _ _ hF6) (bk.perm ?_)
          rw [List.append_nil] at pm
          exact pm
        | cons e0 es =>
          refine ⟨_, rfl, iteT ?_⟩
          have hq7 := u7 _ _ hq6
          have hF7 := u7 _ _ hF6
          have S7 := S6.same u7
          have B7 := B6.trans (.of u7)
          generalize upd H6 pE (.lst []) = H7 at hq7 hF7 S7 B7 ⊢
          have pos : 0 < ((vsT (e0 :: es)).length : Int) := by
            rw [esl]
            show (0 : Int) < ((es.length + 1 : Nat) : Int)
            omega
          have i0 : 0 ≤ (at_ + st * ((vsT acc).length : Int)) % ((vsT (e0 :: es)).length : Int) := Int.emod_nonneg _ (by omega)
          have i1 : (at_ + st * ((vsT acc).length : Int)) % ((vsT (e0 :: es)).length : Int) < ((vsT (e0 :: es)).length : Int) := Int.emod_lt_of_pos _ pos
          generalize hix : (at_ + st * ((vsT acc).length : Int)) % ((vsT (e0 :: es)).length : Int) = ix at i0 i1
          obtain ⟨n9, rfl⟩ := Int.eq_ofNat_of_zero_le i0
          have n9l : n9 < (e0 :: es).length := by omega
          have n9v : n9 < (vsT (e0 :: es)).length := by omega
          obtain ⟨y, hy⟩ : ∃ y, (vsT (e0 :: es))[n9]? = some y := ⟨_, List.getElem?_eq_getElem n9v⟩
          obtain ⟨wy, hwy, rfl⟩ := vsT_get hy
          have sq : seqIndex? (n9 : Int) (vsT (e0 :: es)).length = some n9 := seqIndex_of i0 i1
          refine ⟨_, rfl, .inl ⟨rfl, _, SqL.of hF7⟩, _, rfl, .inl ⟨rfl, _, SqL.of hq7⟩, _, rfl, _, rfl, _, rfl, _, _, rfl, .inl (SqL.of hF7), _, _, rfl, rfl, .inl ⟨by omega, by omega⟩, _, _, rfl, rfl, _, rfl, _, _, rfl, .inl (SqL.of hq7), _, _, rfl, rfl, pos, ?_⟩
          dsimp only
          rw [hix]
          refine ⟨q, _, _, n9, _, rfl, rfl, hq7, by omega, by omega, sq, hy, pF, _, _, rfl, rfl, (by rw [upd_ne (Ne.symm nqF)]; exact hF7), small1000 (by rw [List.length_cons] at pl; omega), ⟨?_, ?_, acc ++ [wy], (e0 :: es).eraseIdx n9, _, _, _, _, _, _, _, rfl, ?_, ?_, pm.trans (perm_pop hwy acc)⟩, ?_⟩
          · intro b o hb hbl
            rw [upd_ne (ne_of_none hb hqF), upd_ne (ne_of_none hb hq)]
            exact B7 _ _ hb hbl
          · obtain ⟨n8, z8, e8, r8⟩ := S7
            exact ⟨n8, z8, by rw [upd_ne (Ne.symm nF), upd_ne (Ne.symm nq)]; exact e8, r8⟩
          · rw [upd_ne nqF, upd_same]
            unfold vsT
            rw [erase_map]
          · rw [upd_same]
            unfold vsT
            rw [List.map_append]
            rfl
          · have em : (upd (upd H7 q (.lst ((vsT (e0 :: es)).eraseIdx n9))) pF (.lst (vsT acc ++ [V.str (txt wy)]))) q = some (.lst ((vsT (e0 :: es)).eraseIdx n9)) := by
              rw [upd_ne nqF, upd_same]
            show (match (upd (upd H7 q (.lst ((vsT (e0 :: es)).eraseIdx n9))) pF (.lst (vsT acc ++ [V.str (txt wy)]))) q with | some (.lst xs) => xs.length | _ => 0) < (match H6 q with | some (.lst xs) => xs.length | _ => 0)
            rw [em, hq6]
            show ((vsT (e0 :: es)).eraseIdx n9).length < (vsT (e0 :: es)).length
            rw [List.length_eraseIdx, if_pos n9v]
            omega
      · rintro σ H9 Q9 Q9' hq9 ⟨v, e1, z, f⟩
        exact ⟨v, e1, z, fun p hp => by
          obtain ⟨d, e, h1, h2, h3, h4, x, h5, q9⟩ := f p hp
          exact ⟨d, e, h1, h2, h3, h4, x, h5, hq9 _ _ q9⟩⟩
end
end Dear

namespace Dear
open PySem PySem.Spec PyProof.Rows L2
section
variable {P : Program} {w : World} {K : PySem.W.Frag} {mg : Str → Option Value} {base : Heap}
theorem o_is_whole (T : Txt K mg) : OkF P w K mg base CX0 1 "is_whole" ["thing"] spWhole := by
  refine T.f_is_whole.ok c_is_whole (fun vs H Q E h => ?_) (fun f cdv A outer s H vs Q E hr h => ?_)
  · obtain ⟨v, n, rfl, _⟩ := h
    rfl
  · obtain ⟨v, d, rfl, hI, k⟩ := h
    refine ⟨_, (pss_one (ps_ret (pe_and (pe_callB (call_isi_k K) (by rfl) T.b_isinstance (by decide +kernel) (pa_cons (pv 0) (pa_cons (pe_bltn (v := .ty "int") (by rfl) T.b_int (by decide +kernel) rfl) pa_nil))) (pe_one (pe_not (pe_callB (call_isi_k K) (by rfl) T.b_isinstance (by decide +kernel) (pa_cons (pv 0) (pa_cons (pe_bltn (v := .ty "bool") (by rfl) T.b_bool (by decide +kernel) rfl) pa_nil)))))))), ?_⟩
    refine ⟨_, rfl, _, _, _, _, _, rfl, .ty _, hI.ty, kit_ty (kd_int d), _, rfl, ?_⟩
    cases d with
    | int i => exact iteT ⟨_, rfl, _, _, _, _, _, rfl, .ty _, hI.ty, kit_ty (kd_bool _), _, rfl, k⟩
    | bl i => exact iteT ⟨_, rfl, _, _, _, _, _, rfl, .ty _, hI.ty, kit_ty (kd_bool _), _, rfl, k⟩
    | non => exact iteF k
    | str z => exact iteF k
    | lst z => exact iteF k
    | tup z => exact iteF k
    | dct => exact iteF k
theorem o_is_name (T : Txt K mg) : OkF P w K mg base CX0 1 "is_name" ["thing"] spNm := by
  refine T.f_is_name.ok c_is_name (fun vs H Q E h => ?_) (fun f cdv A outer s H vs Q E hr h => ?_)
  · obtain ⟨v, n, rfl, _⟩ := h
    rfl
  · obtain ⟨v, d, rfl, hI, ok, k⟩ := h
    refine ⟨_, (pss_cons (ps_if (PW.pt (pw_or (pt_not (pt_val (pe_callB (call_isi_k K) (by rfl) T.b_isinstance (by decide +kernel) (pa_cons (pv 0) (pa_cons (pe_bltn (v := .ty "str") (by rfl) T.b_str (by decide +kernel) rfl) pa_nil))))) (pw_or1 (pt_not (pt_chain op_le op_le pe_int (pe_callB call_len_str (by rfl) T.b_len PySem.boot_len (pa_cons (pv 0) pa_nil)) (pe_gi T.g_LONGEST))))))
(pss_one (ps_ret pe_bl))
pss_nil)
(pss_one (ps_ret (pe_callB (cr_all_k K rfl) (by rfl) T.b_all (by decide +kernel) (pa_cons (pe_lc (own := [("sign", 1)]) (g := gName 1) (tt := tYes) (by rfl) c_is_name.nd (pi_str (pv 0)) (blkOk_by (own := [("sign", 1)]) (N := n_is_name) (sc := defScope s_is_name) (by decide +kernel)) (fun _ _ _ _ _ => (pg_name (i := 1) c_is_name.nd rfl (Or.inl rfl))) (fun _ _ _ _ _ => pts_nil) (fun _ _ _ _ _ => (pe_cmpR op_in_sign (pv 1) (pe_gs T.g_LETTERS) rfl))) pa_nil))))), ?_⟩
    refine ⟨_, rfl, _, _, _, _, _, rfl, .ty _, hI.ty, kit_ty (kd_str d), _, rfl, ?_⟩
    cases hI with
    | str z =>
      have hz : z.length ≤ sizeLine := Nat.le_trans ok.1 (by decide)
      refine iteF ⟨_, rfl, _, rfl, hz, _, _, rfl, rfl, _, rfl, itd (fun c1 => ?_) fun c1 => ?_⟩
      · refine ⟨_, _, rfl, rfl, _, rfl, itnd (fun c2 => ?_) fun c2 => ?_⟩
        · have e3 : isNm (.str z) = false := by
            show (decide (1 ≤ z.length ∧ z.length ≤ 8) && _) = false
            rw [decide_eq_false (by omega), Bool.false_and]
          rw [e3] at k
          exact k H (Same.refl H)
        · refine ⟨_, rfl, z, rfl, fun D hD => lc_it walk_str (fun i H' => ∃ bs : List Bool, bs = (z.cps.toList.take i).map (fun c => decide (c ∈ letters.cps.toList)) ∧ H' = upd H D (.lst (bs.map V.bl))) ⟨[], rfl, rfl⟩ (fun _ _ _ _ => trivial) ?_ ?_⟩
          · rintro i x H' H'' hi ⟨bs, eb, rfl⟩ ⟨rfl, c, hc, rfl⟩
            refine ⟨rfl, _, rfl, _, _, rfl, rfl, _, upd_same, ?_, ?_⟩
            · rw [List.length_map, eb, List.length_map, List.length_take]
              exact Nat.lt_of_le_of_lt (Nat.min_le_left _ _) (Nat.lt_of_lt_of_le hi (by show z.length ≤ _; exact hz))
            · refine ⟨bs ++ [decide (c ∈ letters.cps.toList)], ?_, ?_⟩
              · have hc' : z.cps.toList[i]? = some c := by rw [Array.getElem?_toList]; exact hc
                rw [eb, List.take_succ, hc']
                simp
              · rw [upd_upd, List.map_append]
                rfl
          · rintro H' ⟨bs, eb, rfl⟩
            refine ⟨D, bs, rfl, SqL.of upd_same, ?_⟩
            have e3 : isNm (.str z) = bs.all id := by
              show (decide (1 ≤ z.length ∧ z.length ≤ 8) && _) = _
              rw [decide_eq_true (by omega), Bool.true_and, eb]
              have e4 : z.cps.toList.take z.cps.size = z.cps.toList := by rw [← Array.length_toList, List.take_length]
              rw [e4, List.all_map]
              rfl
            rw [e3] at k
            exact k _ (Same.upd hD)
      · have e3 : isNm (.str z) = false := by
          show (decide (1 ≤ z.length ∧ z.length ≤ 8) && _) = false
          rw [decide_eq_false (by omega), Bool.false_and]
        rw [e3] at k
        exact ⟨_, rfl, iteT (k H (Same.refl H))⟩
    | non => exact iteT (k H (Same.refl H))
    | bl _ => exact iteT (k H (Same.refl H))
    | int _ => exact iteT (k H (Same.refl H))
    | lst _ _ => exact iteT (k H (Same.refl H))
    | tup _ _ => exact iteT (k H (Same.refl H))
    | dct _ => exact iteT (k H (Same.refl H))
end
end Dear

namespace Dear
open PySem PySem.Spec PyProof.Rows L2
/-- None of a plain book, else refused -/
def spLookP (C : Addr) : Sp := fun vs H Q E => ∃ (v : V) (d : D), vs = [v] ∧ Dt H v d ∧ Ok d ∧ (plainOk d = true → ∀ H', Same H H' → Q .non H') ∧ (plainOk d = false → ∀ H', Same H H' → E (.ref C) none H')
theorem pfB_true {zs : List Str} (h : ∀ i j, i < zs.length → j < zs.length → i = j ∨ Txt.startswith (zs.getD j "") (zs.getD i "") = false) : pfB zs = true := by
  unfold pfB
  rw [List.all_eq_true]
  intro i hi
  rw [List.all_eq_true]
  intro j hj
  rcases h i j (List.mem_range.mp hi) (List.mem_range.mp hj) with e | e
  · rw [decide_eq_true e]
    rfl
  · rw [e]
    simp
theorem pfB_false {zs : List Str} {i j : Nat} (hi : i < zs.length) (hj : j < zs.length) (hn : i ≠ j) (h : Txt.startswith (zs.getD j "") (zs.getD i "") = true) : pfB zs = false := by
  cases e : pfB zs with
  | false => rfl
  | true =>
    unfold pfB at e
    have e1 := List.all_eq_true.mp e i (List.mem_range.mpr hi)
    have e2 := List.all_eq_true.mp e1 j (List.mem_range.mpr hj)
    rw [decide_eq_false hn, h] at e2
    cases e2
theorem nm_strs : ∀ {ds : List D}, ds.all isNm = true → ∃ zs : List Str, ds = zs.map D.str ∧ ∀ z ∈ zs, isNm (.str z) = true
  | [], _ => ⟨[], rfl, fun _ h => nomatch h⟩
  | d :: ds, h => by
    rw [List.all_cons, Bool.and_eq_true] at h
    obtain ⟨zs, rfl, hz⟩ := nm_strs h.2
    cases d with
    | str z =>
      refine ⟨z :: zs, rfl, fun y hy => ?_⟩
      rcases List.mem_cons.mp hy with rfl | hy
      · exact h.1
      · exact hz y hy
    | _ => cases h.1
theorem strOf_map (zs : List Str) : (zs.map D.str).map strOf = zs := by
  rw [List.map_map]
  show zs.map (fun z => z) = zs
  exact List.map_id' zs
theorem getD_of {zs : List Str} {i : Nat} {z : Str} (h : zs[i]? = some z) : zs.getD i "" = z := by
  rw [List.getD_eq_getElem?_getD, h]
  rfl
theorem strV_get {zs : List Str} {i : Nat} {x : V} (h : (zs.map V.str)[i]? = some x) : ∃ z, zs[i]? = some z ∧ x = .str z := by
  rw [List.getElem?_map] at h
  cases e : zs[i]? with
  | none => rw [e] at h; cases h
  | some z => rw [e] at h; exact ⟨z, rfl, (Option.some.inj h).symm⟩
theorem small2000 {n : Nat} (h : n ≤ 2000) : n < sizeLine := by
  rw [sizeLine_eq]
  omega
section
variable {P : Program} {w : World} {K : PySem.W.Frag} {mg : Str → Option Value} {base : Heap}
theorem o_look_at_plain (T : Txt K mg) : OkF P w K mg base (L2.CX P w) 2 "look_at_plain" ["thing"] (spLookP T.A.NoBook) := by
  have o_is_name := o_is_name (P := P) (w := w) (base := base) T
  refine T.f_look_at_plain.okX c_look_at_plain (fun vs H Q E h => ?_) (fun f cdv A outer s H vs Q E hr h => ?_)
  · obtain ⟨v, d, rfl, _⟩ := h
    rfl
  · obtain ⟨v, d, rfl, hI, ok, k, kE⟩ := h
    refine ⟨_, (pss_cons (ps_if (PW.pt (pw_or (pt_not (pt_val (pe_callB (call_isi_k K) (by rfl) T.b_isinstance (by decide +kernel) (pa_cons (pv 0) (pa_cons (pe_bltn (v := .ty "list") (by rfl) T.b_list (by decide +kernel) rfl) pa_nil))))) (pw_or1 (pt_not (pt_chain op_le op_le pe_int (pe_callB (call_len_seq_k K) (by rfl) T.b_len PySem.boot_len (pa_cons (pv 0) pa_nil)) (pe_gi T.g_MOST_WORDS))))))
(pss_one (ps_raise rfl (takes_of rfl rfl rfl rfl) (pmk_own PySem.F.excBase_ValueError T.X_NoBook.x T.X_NoBook.g T.X_NoBook.k (raises_own T.X_NoBook.b T.X_NoBook.t) rfl)))
pss_nil)
(pss_cons (ps_if (pt_not (pt_val (pe_callB (cr_all_k K rfl) (by rfl) T.b_all (by decide +kernel) (pa_cons (pe_lc (own := [("text", 2)]) (g := gName 2) (tt := tYes) (by rfl) c_look_at_plain.nd (pi_list_k K (pv 0)) (blkOk_by (own := [("text", 2)]) (N := n_look_at_plain) (sc := defScope s_look_at_plain) (by decide +kernel)) (fun _ _ _ _ _ => (pg_name (i := 2) c_look_at_plain.nd rfl (Or.inl rfl))) (fun _ _ _ _ _ => pts_nil) (fun _ _ _ _ _ => (pe_c o_is_name hr (pa_cons (pv 2) pa_nil)))) pa_nil))))
(pss_one (ps_raise rfl (takes_of rfl rfl rfl rfl) (pmk_own PySem.F.excBase_ValueError T.X_NoBook.x T.X_NoBook.g T.X_NoBook.k (raises_own T.X_NoBook.b T.X_NoBook.t) rfl)))
pss_nil)
(pss_one (ps_for (passes_of rfl) rfl (pi_enum (by rfl) T.b_enumerate (pa_cons (pv 0) pa_nil)) (pg_tup_k K (n := 2) rfl (pgs_cons (pg_name (i := 1) c_look_at_plain.nd rfl (Or.inl rfl)) (pgs_cons (pg_name (i := 2) c_look_at_plain.nd rfl (Or.inl rfl)) pgs_nil)))
(pss_one (ps_for (passes_of rfl) rfl (pi_enum (by rfl) T.b_enumerate (pa_cons (pv 0) pa_nil)) (pg_tup_k K (n := 2) rfl (pgs_cons (pg_name (i := 3) c_look_at_plain.nd rfl (Or.inl rfl)) (pgs_cons (pg_name (i := 4) c_look_at_plain.nd rfl (Or.inl rfl)) pgs_nil)))
(pss_one (ps_if (PW.pt (pw_and (pt_cmpR op_ne (pv 1) (pv 3) (nomark _)) (pw_and1 (pt_val (pe_m1 PySem.F.slot_str_startswith PySem.F.type_str_startswith mt_startswith (pv 4) (pv 2))))))
(pss_one (ps_raise rfl (takes_of rfl rfl rfl rfl) (pmk_own PySem.F.excBase_ValueError T.X_NoBook.x T.X_NoBook.g T.X_NoBook.k (raises_own T.X_NoBook.b T.X_NoBook.t) rfl)))
pss_nil)))))))), ?_⟩
    refine ⟨_, rfl, _, _, _, _, _, rfl, .ty _, hI.ty, kit_ty (kd_list d), _, rfl, ?_⟩
    cases hI with
    | lst ha hall =>
      rename_i a xs ds
      have hl := hall.length
      have e0 : plainOk (.lst ds) = (decide (1 ≤ ds.length ∧ ds.length ≤ 20) && ds.all isNm && pfB (ds.map strOf)) := rfl
      rw [e0] at k kE
      have no : ¬ (1 ≤ ds.length ∧ ds.length ≤ 20) → E (.ref T.A.NoBook) none H := fun e => kE (by rw [decide_eq_false e]; rfl) H (Same.refl H)
      refine iteF ⟨_, rfl, _, _, rfl, .inl (SqL.of ha), _, _, rfl, rfl, _, rfl, itd (fun c1 => ?_) fun c1 => ?_⟩
      · refine ⟨_, _, rfl, rfl, _, rfl, itnd (fun c2 => no (by omega)) fun c2 => ?_⟩
        rw [decide_eq_true (show 1 ≤ ds.length ∧ ds.length ≤ 20 by omega), Bool.true_and] at k kE
        refine ⟨_, rfl, a, rfl, ⟨_, SqL.of ha⟩, fun pD hD => lc_list (K := K) (a := a) (xs := xs) (fun i H' => Same H H' ∧ H' pD = some (.lst (((ds.take i).map isNm).map V.bl))) ⟨Same.upd hD, upd_same⟩ (fun i H' _ e => SqL.of (e.1 _ _ ha)) ?_ ?_⟩
        · rintro i x H' hx ⟨s1, e1⟩
          obtain ⟨d1, hd1, hD1⟩ := hall.get hx
          refine ⟨rfl, _, rfl, x, d1, rfl, hD1.same s1, OkAll.mem ok (List.mem_of_getElem? hd1), fun H2 s2 => ⟨_, s2 _ _ e1, ?_, ?_, ?_⟩⟩
          · rw [List.length_map, List.length_map, List.length_take]
            exact small1000 (by omega)
          · intro b o hb
            rw [upd_ne (ne_of_none hb hD)]
            exact s2 _ _ (s1 _ _ hb)
          · rw [upd_same, take_more hd1, List.map_append, List.map_append]
            rfl
        rintro H1 ⟨s1, e1⟩
        rw [hl, List.take_length] at e1
        refine ⟨pD, ds.map isNm, rfl, SqL.of e1, ?_⟩
        have ea : (ds.map isNm).all id = ds.all isNm := by
          rw [List.all_map]
          rfl
        rw [ea]
        cases en : ds.all isNm with
        | false => exact ⟨_, rfl, iteT (kE (by rw [en]; rfl) H1 s1)⟩
        | true =>
          rw [en, Bool.true_and] at k kE
          refine ⟨_, rfl, iteF ?_⟩
          obtain ⟨zs, rfl, hz⟩ := nm_strs en
          rw [strOf_map] at k kE
          have ex := DtAll.strs hall
          subst ex
          rw [List.length_map] at c1 c2
          refine ⟨_, rfl, a, _, rfl, SqL.of (s1 _ _ ha), for_it (walk_enum (xs := zs.map V.str)) (fun i σ H' => Same H H' ∧ (∀ i' j, i' < i → j < zs.length → i' = j ∨ Txt.startswith (zs.getD j "") (zs.getD i' "") = false) ∧ ∃ v1 v2 v3 v4, σ = [some (.ref a), v1, v2, v3, v4])
            ⟨s1, (fun _ _ h => absurd h (Nat.not_lt_zero _)), _, _, _, _, rfl⟩ (fun i σ H' _ h => SqL.of (h.1 _ _ ha)) ?_ ?_⟩
          · rintro i x σ H' H'' hi ⟨s2, hp, v1, v2, v3, v4, rfl⟩ ⟨tp, y1, y2, rfl, htp, rfl, hy1, hy2⟩
            injection hy1 with hy1
            subst hy1
            obtain ⟨zi, hzi, rfl⟩ := strV_get hy2
            rw [List.length_map] at hi
            have s3 := s2.trans (Same.upd (o := .tup [V.int (i : Nat), .str zi]) htp)
            refine ⟨tp, _, rfl, SqT.of upd_same, rfl, _, _, rfl, _, _, rfl, rfl, ?_⟩
            generalize upd H' tp (.tup [V.int (i : Nat), .str zi]) = H3 at s3 ⊢
            refine ⟨_, rfl, a, _, rfl, SqL.of (s3 _ _ ha), for_it (walk_enum (xs := zs.map V.str)) (fun j σ H' => Same H H' ∧ (∀ j', j' < j → i = j' ∨ Txt.startswith (zs.getD j' "") (zs.getD i "") = false) ∧ ∃ v3 v4, σ = [some (.ref a), some (.int (i : Nat)), some (.str zi), v3, v4])
              ⟨s3, (fun _ h => absurd h (Nat.not_lt_zero _)), _, _, rfl⟩ (fun i σ H' _ h => SqL.of (h.1 _ _ ha)) ?_ ?_⟩
            · rintro j x σ H4 H5 hj ⟨s4, hq, v3, v4, rfl⟩ ⟨tp2, y1, y2, rfl, htp2, rfl, hy1, hy2⟩
              injection hy1 with hy1
              subst hy1
              obtain ⟨zj, hzj, rfl⟩ := strV_get hy2
              rw [List.length_map] at hj
              have s5 := s4.trans (Same.upd (o := .tup [V.int (j : Nat), .str zj]) htp2)
              refine ⟨tp2, _, rfl, SqT.of upd_same, rfl, _, _, rfl, _, _, rfl, rfl, ?_⟩
              refine ⟨_, rfl, _, rfl, rfl, _, rfl, itnd (fun cn => ?_) fun cn => ?_⟩
              · have nij : i ≠ j := fun z => cn (by rw [z])
                refine ⟨_, rfl, ⟨_, rfl⟩, _, rfl, zj, zi, rfl, rfl, _, rfl, itb (fun e => ?_) fun e => ?_⟩
                · exact kE (pfB_false hi hj nij (by rw [getD_of hzj, getD_of hzi]; exact e)) _ s5
                · refine ⟨s5, fun j' hj' => ?_, _, _, rfl⟩
                  by_cases e9 : j' = j
                  · subst e9
                    exact .inr (by rw [getD_of hzj, getD_of hzi]; exact e)
                  · exact hq j' (by omega)
              · have cn : i = j := by
                  injection cn with cn
                  omega
                refine ⟨s5, fun j' hj' => ?_, _, _, rfl⟩
                by_cases e9 : j' = j
                · exact .inl (by rw [e9, cn])
                · exact hq j' (by omega)
            · rintro σ H4 ⟨s4, hq, v3, v4, rfl⟩
              rw [List.length_map] at hq
              refine ⟨s4, fun i' j hi' hj => ?_, _, _, _, _, rfl⟩
              by_cases e9 : i' = i
              · subst e9
                exact hq j hj
              · exact hp i' j (by omega) hj
          · rintro σ H' ⟨s2, hp, v1, v2, v3, v4, rfl⟩
            rw [List.length_map] at hp
            exact k (pfB_true fun i j hi hj => hp i j hi hj) H' s2
      · exact ⟨_, rfl, iteT (no (by omega))⟩
    | _ => exact iteT (kE rfl H (Same.refl H))
end
/-! ### rows and what they write -/
def badIx (n : Nat) (i : Nat) : List D → Option V
  | [] => none
  | .int k :: r => if 0 ≤ k ∧ k < n then badIx n (i + 1) r else some (.int (i : Nat))
  | _ :: _ => some (.int (i : Nat))
def rowBad (n : Nat) : D → Option V
  | .lst ds => badIx n 0 ds
  | _ => some .non
def idxD : D → Nat
  | .int k => k.toNat
  | _ => 0
def zsOf : D → List Str
  | .lst ds => ds.map strOf
  | _ => []
def rowT (zs : List Str) : D → Str
  | .lst ds => Txt.join "" (ds.map fun d => zs.getD (idxD d) "")
  | _ => ""
def lenD : D → Nat
  | .lst ds => ds.length
  | _ => 0
def spWrite (CB CT : Addr) : Sp := fun vs H Q E => ∃ (vb v : V) (db d : D), vs = [vb, v] ∧ Dt H vb db ∧ Ok db ∧ Dt H v d ∧ Ok d ∧ lenD d ≤ 2000 ∧ (plainOk db = false → ∀ H', Same H H' → E (.ref CB) none H') ∧
  (plainOk db = true → (rowBad (zsOf db).length d = none → ∀ H', Same H H' → Q (.str (rowT (zsOf db) d)) H') ∧ ∀ u, rowBad (zsOf db).length d = some u → ∀ (dd : Addr) (H' : Hp), Same H H' → H dd = none → H' dd = some (.xd [("place", u)]) → E (.ref CT) (some dd) H')
theorem plain_shape {d : D} (h : plainOk d = true) : ∃ zs : List Str, d = .lst (zs.map D.str) ∧ zsOf d = zs ∧ 1 ≤ zs.length ∧ zs.length ≤ 20 ∧ ∀ z ∈ zs, z.length ≤ 8 := by
  cases d with
  | lst ds =>
    have h : (decide (1 ≤ ds.length ∧ ds.length ≤ 20) && ds.all isNm && pfB (ds.map strOf)) = true := h
    rw [Bool.and_eq_true, Bool.and_eq_true, decide_eq_true_eq] at h
    obtain ⟨zs, rfl, hz⟩ := nm_strs h.1.2
    rw [List.length_map] at h
    refine ⟨zs, rfl, strOf_map zs, h.1.1.1, h.1.1.2, fun z hz' => ?_⟩
    have hn : (decide (1 ≤ z.length ∧ z.length ≤ 8) && z.cps.toList.all fun c => decide (c ∈ letters.cps.toList)) = true := hz z hz'
    rw [Bool.and_eq_true, decide_eq_true_eq] at hn
    exact hn.1.2
  | _ => cases h
theorem sum_le {ys : List Str} {n : Nat} (h : ∀ y ∈ ys, y.length ≤ n) : (ys.map (·.length)).sum ≤ ys.length * n := by
  induction ys with
  | nil => simp
  | cons a r ih =>
    rw [List.map_cons, List.sum_cons, List.length_cons, Nat.succ_mul]
    have h1 := h a List.mem_cons_self
    have h2 := ih fun y hy => h y (List.mem_cons_of_mem _ hy)
    omega
theorem mem_getD {zs : List Str} {i n : Nat} (h : ∀ z ∈ zs, z.length ≤ n) : (zs.getD i "").length ≤ n := by
  rw [List.getD_eq_getElem?_getD]
  cases e : zs[i]? with
  | none => exact Nat.zero_le _
  | some z => exact h z (List.mem_of_getElem? e)
/-- all of a row are numbers below n -/
theorem badIx_none {n : Nat} : ∀ {ds : List D} {i : Nat}, badIx n i ds = none → ∀ d ∈ ds, ∃ k : Nat, d = .int (k : Nat) ∧ k < n
  | [], _, _ => fun _ h => nomatch h
  | .int k :: r, i, h => by
    have h : (if 0 ≤ k ∧ k < n then badIx n (i + 1) r else some (.int (i : Nat))) = none := h
    intro d hd
    split at h
    · rename_i hk
      rcases List.mem_cons.mp hd with rfl | hd
      · obtain ⟨m, rfl⟩ := Int.eq_ofNat_of_zero_le hk.1
        exact ⟨m, rfl, by omega⟩
      · exact badIx_none h d hd
    · cases h
  | .non :: _, _, h => by cases h
  | .bl _ :: _, _, h => by cases h
  | .str _ :: _, _, h => by cases h
  | .lst _ :: _, _, h => by cases h
  | .tup _ :: _, _, h => by cases h
  | .dct :: _, _, h => by cases h
section
variable {P : Program} {w : World} {K : PySem.W.Frag} {mg : Str → Option Value} {base : Heap}
theorem o_write_row (T : Txt K mg) : OkF P w K mg base (L2.CX P w) 4 "write_row" ["book", "row"] (spWrite T.A.NoBook T.A.NoThing) := by
  have o_is_whole := o_is_whole (P := P) (w := w) (base := base) T
  have o_look_at_plain := o_look_at_plain (P := P) (w := w) (base := base) T
  have oi_NoThing := oi_NoThing (P := P) (w := w) (base := base) T
  refine T.f_write_row.okX c_write_row (fun vs H Q E h => ?_) (fun f cdv A outer s H vs Q E hr h => ?_)
  · obtain ⟨vb, v, db, d, rfl, _⟩ := h
    rfl
  · obtain ⟨vb, v, db, d, rfl, hB, okb, hI, ok, ld, kB, kG⟩ := h
    refine ⟨_, (pss_cons (ps_expr (pe_cx o_look_at_plain hr (takes_of rfl rfl rfl rfl) (pa_cons (pv 0) pa_nil)))
(pss_cons (ps_if (pt_not (pt_val (pe_callB (call_isi_k K) (by rfl) T.b_isinstance (by decide +kernel) (pa_cons (pv 1) (pa_cons (pe_bltn (v := .ty "list") (by rfl) T.b_list (by decide +kernel) rfl) pa_nil)))))
(pss_one (ps_raise rfl (takes_of rfl rfl rfl rfl) (pmk_i oi_NoThing hr (pa_cons pe_non pa_nil))))
pss_nil)
(pss_cons (ps_for (passes_of rfl) rfl (pi_enum (by rfl) T.b_enumerate (pa_cons (pv 1) pa_nil)) (pg_tup_k K (n := 2) rfl (pgs_cons (pg_name (i := 2) c_write_row.nd rfl (Or.inl rfl)) (pgs_cons (pg_name (i := 3) c_write_row.nd rfl (Or.inl rfl)) pgs_nil)))
(pss_one (ps_if (PW.pt (pw_or (pt_not (pt_val (pe_c o_is_whole hr (pa_cons (pv 3) pa_nil)))) (pw_or1 (pt_not (pt_chain op_le op_lt pe_int (pv 3) (pe_callB (call_len_seq_k K) (by rfl) T.b_len PySem.boot_len (pa_cons (pv 0) pa_nil)))))))
(pss_one (ps_raise rfl (takes_of rfl rfl rfl rfl) (pmk_i oi_NoThing hr (pa_cons (pv 2) pa_nil))))
pss_nil)))
(pss_one (ps_ret (pe_join_k K pe_str (pe_lc (own := [("number", 3)]) (g := gName 3) (tt := tYes) (by rfl) c_write_row.nd (pi_list_k K (pv 1)) (blkOk_by (own := [("number", 3)]) (N := n_write_row) (sc := defScope s_write_row) (by decide +kernel)) (fun _ _ _ _ _ => (pg_name (i := 3) c_write_row.nd rfl (Or.inl rfl))) (fun _ _ _ _ _ => pts_nil) (fun _ _ _ _ _ => (pe_ix (ix_list_k K) (pv 0) (pv 3) (fun _ _ => rfl)))))))))), ?_⟩
    refine ⟨_, rfl, vb, db, rfl, hB, okb, fun e H1 s1 => ?_, fun e H1 s1 => kB e H1 s1⟩
    obtain ⟨k, kE⟩ := kG e
    obtain ⟨zs, rfl, ez, z1, z20, z8⟩ := plain_shape e
    rw [ez] at k kE
    have hI1 := hI.same s1
    refine ⟨_, rfl, _, _, _, _, _, rfl, .ty _, hI1.ty, kit_ty (kd_list d), _, rfl, ?_⟩
    have no : rowBad zs.length d = some .non → ∀ dd : Addr, H1 dd = none → E (.ref T.A.NoThing) (some dd) (upd H1 dd (.xd [("place", .non)])) := fun e dd hd => kE _ e dd _ (s1.trans (Same.upd hd)) (same_none s1 hd) upd_same
    have hB1 := hB.same s1
    cases hB1 with
    | lst hb hball =>
      rename_i b xb
      have exb := DtAll.strs hball
      subst exb
      cases hI1 with
      | lst ha hall =>
        rename_i a xs ds
        have hl := hall.length
        have ld : ds.length ≤ 2000 := ld
        refine iteF ⟨_, rfl, a, xs, rfl, SqL.of ha, for_it (walk_enum (xs := xs)) (fun i σ H' => Same H1 H' ∧ badIx zs.length 0 ds = badIx zs.length i (ds.drop i) ∧ ∃ v2 v3, σ = [some (.ref b), some (.ref a), v2, v3]) ⟨Same.refl _, rfl, _, _, rfl⟩ (fun i σ H' _ h => SqL.of (h.1 _ _ ha)) ?_ ?_⟩
        · rintro i x σ H' H'' hi ⟨s2, hb2, v2, v3, rfl⟩ ⟨tp, y1, y2, rfl, htp, rfl, hy1, hy2⟩
          injection hy1 with hy1
          subst hy1
          obtain ⟨d1, hd1, hD1⟩ := hall.get hy2
          rw [drop_get hd1] at hb2
          have s3 := s2.trans (Same.upd (o := .tup [V.int (i : Nat), y2]) htp)
          refine ⟨tp, _, rfl, SqT.of upd_same, rfl, _, _, rfl, _, _, rfl, rfl, ?_⟩
          generalize upd H' tp (.tup [V.int (i : Nat), y2]) = H3 at s3 ⊢
          have bad : badIx zs.length i (d1 :: ds.drop (i + 1)) = some (.int (i : Nat)) → ∀ dd : Addr, H3 dd = none → E (.ref T.A.NoThing) (some dd) (upd H3 dd (.xd [("place", .int (i : Nat))])) := fun e dd hd => kE _ (show badIx zs.length 0 ds = _ from hb2.trans e) dd _ ((s1.trans s3).trans (Same.upd hd)) (same_none (s1.trans s3) hd) upd_same
          have fv : FmtV (.int (i : Nat)) := .inr (.inr ⟨_, rfl, Nat.lt_of_lt_of_le (show ((i : Nat) : Int).natAbs < 2 ^ 20 by omega) (by decide)⟩)
          have hD3 := hD1.same s3
          refine ⟨_, rfl, y2, d1, rfl, hD3, _, rfl, ?_⟩
          cases hD3 with
          | int c =>
            refine iteF ⟨_, rfl, _, _, rfl, rfl, _, rfl, itd (fun c1 => ?_) fun c1 => ?_⟩
            · refine ⟨_, rfl, _, _, rfl, .inl (SqL.of (s3 _ _ hb)), _, _, rfl, rfl, _, rfl, itnd (fun c2 => ?_) fun c2 => ?_⟩
              · refine ⟨_, rfl, mkx T.X_NoThing fv (bad (if_neg fun q => c2 ?_))⟩
                show c < ((zs.map V.str).length : Int)
                rw [List.length_map]
                exact q.2
              · have c2 : c < ((zs.map V.str).length : Int) := c2
                rw [List.length_map] at c2
                exact ⟨s3, hb2.trans (if_pos ⟨c1, c2⟩), _, _, rfl⟩
            · exact ⟨_, rfl, iteT ⟨_, rfl, mkx T.X_NoThing fv (bad (if_neg fun q => c1 q.1))⟩⟩
          | _ => exact iteT ⟨_, rfl, mkx T.X_NoThing fv (bad rfl)⟩
        · rintro σ H' ⟨s2, hb2, v2, v3, rfl⟩
          rw [List.drop_of_length_le (by omega)] at hb2
          have gd := badIx_none (show badIx zs.length 0 ds = none from hb2)
          have hb' := s2 _ _ hb
          have ha' := s2 _ _ ha
          refine ⟨⟨_, rfl⟩, _, rfl, a, rfl, ⟨_, SqL.of ha'⟩, fun pD hD => lc_list (K := K) (a := a) (xs := xs) (fun i H3 => Same H' H3 ∧ H3 pD = some (.lst (((ds.take i).map fun d => zs.getD (idxD d) "").map V.str))) ⟨Same.upd hD, upd_same⟩ (fun i H' _ e => SqL.of (e.1 _ _ ha')) ?_ ?_⟩
          · rintro i x H3 hx ⟨s3, e3⟩
            obtain ⟨d1, hd1, hD1⟩ := hall.get hx
            obtain ⟨n1, rfl, hn1⟩ := gd d1 (List.mem_of_getElem? hd1)
            cases hD1
            obtain ⟨z1, hz1⟩ : ∃ z, zs[n1]? = some z := ⟨_, List.getElem?_eq_getElem hn1⟩
            refine ⟨rfl, _, rfl, _, rfl, _, _, _, .str z1, rfl, rfl, SqL.of (s3 _ _ hb'), atI_nat (by rw [List.getElem?_map, hz1]; rfl), _, e3, ?_, ?_, ?_⟩
            · rw [List.length_map, List.length_map, List.length_take]
              exact small2000 (by omega)
            · intro b o hb
              rw [upd_ne (ne_of_none hb hD)]
              exact s3 _ _ hb
            · rw [upd_same, take_more hd1, List.map_append, List.map_append]
              show some (HO.lst (_ ++ [V.str z1])) = some (HO.lst (_ ++ [V.str (zs.getD n1 "")]))
              rw [getD_of hz1]
          · rintro H3 ⟨s3, e3⟩
            rw [hl, List.take_length] at e3
            refine ⟨"", pD, ds.map fun d => zs.getD (idxD d) "", rfl, rfl, .inl (SqL.of e3), ?_, k hb2 H3 ((s1.trans s2).trans s3)⟩
            have e0 : ("" : Str).length = 0 := by decide +kernel
            have := sum_le (ys := ds.map fun d => zs.getD (idxD d) "") (n := 8) fun y hy => by
              obtain ⟨d, _, rfl⟩ := List.mem_map.mp hy
              exact mem_getD z8
            rw [List.length_map] at this
            rw [e0, List.length_map]
            omega
      | _ => exact iteT (mkx T.X_NoThing (.inl rfl) (no rfl))
end
end Dear

namespace Dear
open PySem PySem.Spec PyProof.Rows L2
/-- a number of a word -/
def goodI (n : Nat) (d : D) : Prop := ∃ k : Nat, d = .int (k : Nat) ∧ k < n
theorem not_good {n : Nat} {d : D} (h : isInt d = false) : ¬ goodI n d := fun ⟨k, e, _⟩ => by
  subst e
  cases h
theorem not_goodI {n : Nat} {i : Int} (h : i < 0 ∨ (n : Int) ≤ i) : ¬ goodI n (.int i) := fun ⟨k, e, hk⟩ => by
  injection e with e
  omega
theorem bad_of {n : Nat} {ds : List D} (h : ∃ d ∈ ds, ¬ goodI n d) : ∃ u, rowBad n (.lst ds) = some u := by
  cases e : rowBad n (.lst ds) with
  | some u => exact ⟨u, rfl⟩
  | none =>
    obtain ⟨d, hd, hn⟩ := h
    exact absurd (badIx_none e d hd) hn
theorem bad_kindR {n : Nat} {d : D} {u : V} (h : rowBad n d = some u) : u = .non ∨ ∃ k : Nat, u = .int (k : Nat) ∧ k ≤ lenD d := by
  have key : ∀ {ds : List D} {i : Nat} {u : V}, badIx n i ds = some u → ∃ k : Nat, u = .int (k : Nat) ∧ k ≤ i + ds.length := by
    intro ds
    induction ds with
    | nil =>
      intro i u h
      cases h
    | cons d r ih =>
      intro i u h
      have z : ∀ {u}, (some (V.int (i : Nat)) : Option V) = some u → ∃ k : Nat, u = .int (k : Nat) ∧ k ≤ i + (d :: r).length := fun {u} e => by
        injection e with e
        exact ⟨i, e.symm, Nat.le_add_right _ _⟩
      cases d with
      | int c =>
        have h : (if 0 ≤ c ∧ c < n then badIx n (i + 1) r else some (.int (i : Nat))) = some u := h
        split at h
        · obtain ⟨k, e, hk⟩ := ih h
          exact ⟨k, e, by rw [List.length_cons]; omega⟩
        · exact z h
      | _ => exact z h
  cases d with
  | lst ds =>
    obtain ⟨k, e, hk⟩ := key (show badIx n 0 ds = some u from h)
    exact .inr ⟨k, e, by show k ≤ ds.length; omega⟩
  | _ =>
    injection h with h
    exact .inl h.symm
def badR (n : Nat) (d : D) : List V := match rowBad n d with
  | none => []
  | some u => [u]
theorem badR_some {n : Nat} {d : D} {u : V} (h : rowBad n d = some u) : badR n d = [u] := by
  unfold badR
  rw [h]
def spOdd20 : Sp := fun vs H Q _ => ∃ (l : Addr) (n : Nat), vs = [.ref l, .int (n : Nat)] ∧ Src H l ∧ n ≤ 20 ∧ ∀ (v : V) (d : D) (H' : Hp), But l H H' → Src H' l → Dt (New H H') v d → Ok d → ¬ goodI n d → Q v H'
def spDue20 : Sp := fun vs H Q _ => ∃ (v : V) (d : D) (n : Nat), vs = [v, .int (n : Nat)] ∧ Dt H v d ∧ Ok d ∧ lenD d ≤ 2000 ∧ ∀ (p : Addr) (H' : Hp), Same H H' → H' p = some (.lst (badR n d)) → Q (.ref p) H'
def spPlace : Sp := fun vs H Q _ => ∃ (b : Addr) (v : V) (bs : List (List Nat)) (d : D) (u : V), vs = [.ref b, v] ∧ H b = some (.lst (vsT bs)) ∧ BkOk bs ∧ Dt H v d ∧ Ok d ∧ lenD d ≤ 2000 ∧ rowBad bs.length d = some u ∧ ∀ (p : Addr) (H' : Hp), Same H H' → H' p = some (.lst [u]) → Q (.ref p) H'
def rowV (ns : List Nat) : List V := ns.map fun k => V.int (k : Nat)
def rowD (ns : List Nat) : D := .lst (ns.map fun k => D.int (k : Nat))
theorem dt_row {H : Hp} : ∀ ns : List Nat, DtAll H (rowV ns) (ns.map fun k => D.int (k : Nat))
  | [] => .nil
  | _ :: ns => .cons (.int _) (dt_row ns)
def spSpoil20 : Sp := fun vs H Q _ => ∃ (l p : Addr) (ns : List Nat) (n : Nat), vs = [.ref l, .ref p, .int (n : Nat)] ∧ Src H l ∧ p ≠ l ∧ H p = some (.lst (rowV ns)) ∧ ns.length ≤ 100 ∧ (∀ k ∈ ns, k < 20) ∧ n ≤ 20 ∧
  ∀ (v : V) (d : D) (u : V) (H' : Hp), But l H H' → Src H' l → Dt (Off l H') v d → Ok d → lenD d ≤ 2000 → rowBad n d = some u → Q v H'
theorem ok_row {ns : List Nat} (h : ∀ k ∈ ns, k < 20) : OkAll (ns.map fun k => D.int (k : Nat)) := by
  induction ns with
  | nil => trivial
  | cons k r ih => exact ⟨lt300 (Nat.lt_of_lt_of_le (show ((k : Nat) : Int).natAbs < 2 ^ 20 by have := h k List.mem_cons_self; omega) (by decide)), ih fun x hx => h x (List.mem_cons_of_mem _ hx)⟩
theorem pu_row : ∀ ns : List Nat, PuAll (ns.map fun k => D.int (k : Nat))
  | [] => trivial
  | _ :: ns => ⟨trivial, pu_row ns⟩
section
variable {P : Program} {w : World} {K : PySem.W.Frag} {mg : Str → Option Value} {base : Heap}
theorem o__law_odd (T : Txt K mg) : OkF P w K mg base CX0 2 "_law_odd" ["_law_pool_here", "_law_many"] spOdd20 := by
  have o__law_take := o__law_take (P := P) (w := w) (base := base) T
  refine T.f__law_odd.ok c__law_odd (fun vs H Q E h => ?_) (fun f cdv A outer s H vs Q E hr h => ?_)
  · obtain ⟨l, n, rfl, _⟩ := h
    rfl
  · obtain ⟨l, n, rfl, S, n20, k⟩ := h
    refine ⟨_, (pss_cons (ps_set (i := 2) c__law_odd.nd rfl (Or.inl rfl) (pe_lst (pa_cons (pv 1) (pa_cons (pe_un un_neg pe_int) (pa_cons (pe_op op_add (pv 1) pe_int) (pa_cons pe_bl (pa_cons pe_bl (pa_cons pe_non (pa_cons pe_str (pa_cons (pe_lst (pa_cons pe_int pa_nil)) (pa_cons (pe_tup (pa_cons pe_int pa_nil)) (pa_cons (pe_op op_pow pe_int pe_int) (pa_cons (pe_un un_neg (pe_op op_pow pe_int pe_int)) (pa_cons pe_dnewK pa_nil))))))))))))))
(pss_one (ps_ret (pe_ix (ix_list_k K) (pv 2) (pe_c o__law_take hr (pa_cons (pv 0) (pa_cons pe_int pa_nil))) (fun _ _ => rfl))))), ?_⟩
    refine s_seq (s_set (s_lst ?_))
    refine MkNA.go (by exact (mkna_cons (mkn_var rfl fun _ => by first | exact .int _ | exact .str _ | exact .bl _ | exact .non) (mkna_cons mkn_neg (mkna_cons (mkn_i fun _ _ q => ⟨_, rfl, _, _, rfl, rfl,  q⟩) (mkna_cons (mkn_c fun _ => .bl _) (mkna_cons (mkn_c fun _ => .bl _) (mkna_cons (mkn_c fun _ => .non) (mkna_cons (mkn_c fun _ => .str _) (mkna_cons (mkn_lst (mkna_cons (mkn_c fun _ => .int _) mkna_nil)) (mkna_cons (mkn_tup (mkna_cons (mkn_c fun _ => .int _) mkna_nil)) (mkna_cons (mkn_i fun _ _ q => ⟨_, _, rfl, rfl, ⟨by decide, by decide, by decide⟩,  q⟩) (mkna_cons (mkn_i fun _ _ q => ⟨_, _, rfl, rfl, ⟨by decide, by decide, by decide⟩, _, rfl,  q⟩) (mkna_cons mkn_dnew mkna_nil))))))))))))) fun vs H3 s3 d3 => ⟨sz_lit (by rw [d3.length]; exact Nat.le_of_ble_eq_true rfl), fun p hp => ?_⟩
    have u4 := Same.upd (o := .lst vs) hp
    have S4 := S.same (s3.trans u4)
    have np : p ≠ l := (S.same s3).ne hp
    refine ⟨_, rfl, _, rfl, l, 12, rfl, S4, by decide, log_le 12 (by decide), fun r H5 r0 r1 B5 S5 => ?_⟩
    obtain ⟨v, hv, _, hr⟩ := at_lt (xs := vs) r0 (by rw [d3.length]; exact r1)
    obtain ⟨d, hd, hD⟩ := d3.get hr
    have hm := List.mem_of_getElem? hd
    have okm : (n : Int).natAbs < 2 ^ 200 := Nat.lt_of_lt_of_le (show (n : Int).natAbs < 2 ^ 20 by omega) (by decide)
    have okm1 : ((n : Int) + 1).natAbs < 2 ^ 200 := Nat.lt_of_lt_of_le (show ((n : Int) + 1).natAbs < 2 ^ 20 by omega) (by decide)
    have ok9 : OkAll [D.int (n : Int), .int (-1), .int ((n : Int) + 1), .bl true, .bl false, .non, .str "0", .lst [.int 0], .tup [.int 0], .int (10 ^ (30 : Int).toNat), .int (-10 ^ (18 : Int).toNat), .dct] := ⟨lt300 okm, okI, lt300 okm1, trivial, trivial, trivial, okS, ⟨okI, trivial⟩, ⟨okI, trivial⟩, okI, okI, trivial, trivial⟩
    have B05 : But l H H5 := (But.of (s3.trans u4)).trans B5
    obtain ⟨o, ho⟩ := S.some
    refine ⟨_, _, _, v, rfl, rfl, SqL.of (B5 _ _ upd_same np), hv, k v d H5 B05 S5 ((hD.same (New.mono u4)).same (New.but ho B5)) (ok9.mem hm) ?_⟩
    simp only [List.mem_cons, List.not_mem_nil, or_false] at hm
    rcases hm with rfl | rfl | rfl | rfl | rfl | rfl | rfl | rfl | rfl | rfl | rfl | rfl
    · exact not_goodI (.inr (by omega))
    · exact not_goodI (.inl (by omega))
    · exact not_goodI (.inr (by omega))
    · exact not_good rfl
    · exact not_good rfl
    · exact not_good rfl
    · exact not_good rfl
    · exact not_good rfl
    · exact not_good rfl
    · exact not_goodI (.inr (by rw [show ((10 : Int) ^ (30 : Int).toNat) = 1000000000000000000000000000000 by decide]; omega))
    · exact not_goodI (.inl (by decide))
    · exact not_good rfl
theorem o__law_due (T : Txt K mg) : OkF P w K mg base CX0 1 "_law_due" ["_law_row", "_law_many"] spDue20 := by
  refine T.f__law_due.ok c__law_due (fun vs H Q E h => ?_) (fun f cdv A outer s H vs Q E hr h => ?_)
  · obtain ⟨v, d, n, rfl, _⟩ := h
    rfl
  · obtain ⟨v, d, n, rfl, hI, ok, ld, k⟩ := h
    refine ⟨_, (pss_cons (ps_if (pt_not (pt_val (pe_callB (call_isi_k K) (by rfl) T.b_isinstance (by decide +kernel) (pa_cons (pv 0) (pa_cons (pe_bltn (v := .ty "list") (by rfl) T.b_list (by decide +kernel) rfl) pa_nil)))))
(pss_one (ps_ret (pe_lst (pa_cons pe_non pa_nil))))
pss_nil)
(pss_cons (ps_for PassesOwn.never rfl (pi_range1 (by rfl) T.b_range (pa_cons (pe_callB (call_len_seq_k K) (by rfl) T.b_len PySem.boot_len (pa_cons (pv 0) pa_nil)) pa_nil)) (pg_name (i := 2) c__law_due.nd rfl (Or.inl rfl))
(pss_one (ps_if (PW.pt (pw_or (pt_not (pt_val (pe_callB (call_isi_k K) (by rfl) T.b_isinstance (by decide +kernel) (pa_cons (pe_ix (ix_list_k K) (pv 0) (pv 2) (fun _ _ => rfl)) (pa_cons (pe_bltn (v := .ty "int") (by rfl) T.b_int (by decide +kernel) rfl) pa_nil))))) (pw_or (pt_val (pe_callB (call_isi_k K) (by rfl) T.b_isinstance (by decide +kernel) (pa_cons (pe_ix (ix_list_k K) (pv 0) (pv 2) (fun _ _ => rfl)) (pa_cons (pe_bltn (v := .ty "bool") (by rfl) T.b_bool (by decide +kernel) rfl) pa_nil)))) (pw_or1 (pt_not (pt_chain op_le op_lt pe_int (pe_ix (ix_list_k K) (pv 0) (pv 2) (fun _ _ => rfl)) (pv 1)))))))
(pss_one (ps_ret (pe_lst (pa_cons (pv 2) pa_nil))))
pss_nil)))
(pss_one (ps_ret (pe_lst pa_nil))))), ?_⟩
    refine ⟨_, rfl, _, _, _, _, _, rfl, .ty _, hI.ty, kit_ty (kd_list d), _, rfl, ?_⟩
    have tell : ∀ {u : V} {H1 : Hp} {p : Addr}, Same H H1 → rowBad n d = some u → H1 p = none → Q (.ref p) (upd H1 p (.lst [u])) := fun {u H1 p} s1 e hp => by
      refine k p _ (s1.trans (Same.upd hp)) ?_
      rw [badR_some e]
      exact upd_same
    have one : 1 ≤ sizeLine := by decide
    cases hI with
    | lst ha hall =>
      rename_i a xs ds
      have hl := hall.length
      have ld : ds.length ≤ 2000 := ld
      refine iteF ⟨_, rfl, _, _, rfl, .inl (SqL.of ha), _, rfl, by omega, by omega, for_range (lo := 0) (n := xs.length) (fun i σ H' => H' = H ∧ badIx n 0 ds = badIx n i (ds.drop i) ∧ ∃ v2, σ = [some (.ref a), some (.int (n : Nat)), v2]) ⟨rfl, rfl, _, rfl⟩ ?_ ?_⟩
      · rintro i σ H' hi ⟨rfl, hb, v2, rfl⟩
        rw [Int.zero_add]
        obtain ⟨y, hy⟩ : ∃ y, xs[i]? = some y := ⟨xs[i], List.getElem?_eq_getElem hi⟩
        obtain ⟨d1, hd1, hD1⟩ := hall.get hy
        rw [drop_get hd1] at hb
        have bad : badIx n i (d1 :: ds.drop (i + 1)) = some (.int (i : Nat)) → ∀ {p : Addr}, H' p = none → Q (.ref p) (upd H' p (.lst [.int (i : Nat)])) := fun e {p} hp => tell (Same.refl _) (show badIx n 0 ds = _ from hb.trans e) hp
        refine ⟨_, rfl, _, rfl, _, _, _, y, rfl, rfl, SqL.of ha, atI_nat hy, _, _, _, _, _, rfl, .ty _, hD1.ty, kit_ty (kd_int d1), _, rfl, ?_⟩
        cases hD1 with
        | int c =>
          refine iteF ⟨_, rfl, _, rfl, _, _, _, _, rfl, rfl, SqL.of ha, atI_nat hy, _, _, _, _, _, rfl, .ty _, (Dt.int (H := H') c).ty, kit_ty (kd_bool (.int c)), _, rfl, iteF ?_⟩
          refine ⟨_, rfl, _, rfl, _, _, _, _, rfl, rfl, SqL.of ha, atI_nat hy, _, _, rfl, rfl, _, rfl, itd (fun c3 => ?_) fun c3 => ?_⟩
          · refine ⟨_, rfl, _, _, rfl, rfl, _, rfl, itnd (fun c4 => ?_) fun c4 => ?_⟩
            · exact ⟨_, rfl, one, fun p hp => bad (if_neg fun q => c4 q.2) hp⟩
            · exact ⟨rfl, hb.trans (if_pos ⟨c3, c4⟩), _, rfl⟩
          · exact ⟨_, rfl, iteT ⟨_, rfl, one, fun p hp => bad (if_neg fun q => c3 q.1) hp⟩⟩
        | bl c =>
          exact iteF ⟨_, rfl, _, rfl, _, _, _, _, rfl, rfl, SqL.of ha, atI_nat hy, _, _, _, _, _, rfl, .ty _, (Dt.bl (H := H') c).ty, kit_ty (kd_bool (.bl c)), _, rfl, iteT ⟨_, rfl, one, fun p hp => bad rfl hp⟩⟩
        | _ => exact iteT ⟨_, rfl, one, fun p hp => bad rfl hp⟩
      · rintro σ H' ⟨rfl, hb, v2, rfl⟩
        rw [List.drop_of_length_le (by omega)] at hb
        refine ⟨(by show 0 ≤ sizeLine; decide), fun p hp => k p _ (Same.upd hp) ?_⟩
        unfold badR
        rw [show rowBad n (.lst ds) = none from hb]
        exact upd_same
    | _ => exact iteT ⟨one, fun p hp => tell (Same.refl H) rfl hp⟩
theorem o__law_place (T : Txt K mg) : OkF P w K mg base CX0 5 "_law_place" ["_law_book", "_law_row"] spPlace := by
  have o_write_row := o_write_row (P := P) (w := w) (base := base) T
  refine T.f__law_place.ok c__law_place (fun vs H Q E h => ?_) (fun f cdv A outer s H vs Q E hr h => ?_)
  · obtain ⟨b, v, bs, d, u, rfl, _⟩ := h
    rfl
  · obtain ⟨b, v, bs, d, u, rfl, hb, bk, hI, ok, ld, e, k⟩ := h
    refine ⟨_, (pss_cons (ps_set (i := 2) c__law_place.nd rfl (Or.inl rfl) pe_non)
(pss_cons (ps_try_kept (i := 3) (j := 2) rfl rfl rfl c__law_place.nd rfl rfl (by decide) rfl rfl ⟨rfl, by decide, Or.inl T.C_DearError⟩ takes0 (fun W pn xe tk _ =>
(pss_one (ps_expr (pe_cx o_write_row hr tk (pa_cons (pv 0) (pa_cons (pv 1) pa_nil)))))))
(pss_cons (ps_if (PW.pt (pw_or (pt_not (pt_val (pe_callB (call_isY_k K) (by rfl) T.b_isinstance (by decide +kernel) (pa_cons (pv 2) (pa_cons (pe_glob (v := .ref T.A.NoThing) rfl T.C_NoThing rfl) pa_nil))))) (pw_or (pt_not (pt_val (pe_callB (call_isY_k K) (by rfl) T.b_isinstance (by decide +kernel) (pa_cons (pv 2) (pa_cons (pe_bltn (v := .ty "ValueError") (by rfl) T.b_ValueError (by decide +kernel) rfl) pa_nil))))) (pw_or1 (pt_val (pe_callB (call_isi_k K) (by rfl) T.b_isinstance (by decide +kernel) (pa_cons (pe_xfK K (pv 2)) (pa_cons (pe_bltn (v := .ty "bool") (by rfl) T.b_bool (by decide +kernel) rfl) pa_nil))))))))
(pss_one (ps_ret (pe_lst (pa_cons pe_str pa_nil))))
pss_nil)
(pss_cons (ps_if (pt_val (pe_callB (call_isYT_k K) (by rfl) T.b_isinstance (by decide +kernel) (pa_cons (pv 2) (pa_cons (pe_tup (pa_cons (pe_glob (v := .ref T.A.BadSign) rfl T.C_BadSign rfl) (pa_cons (pe_glob (v := .ref T.A.NoBook) rfl T.C_NoBook rfl) (pa_cons (pe_glob (v := .ref T.A.NoCount) rfl T.C_NoCount rfl) (pa_cons (pe_glob (v := .ref T.A.NoNumber) rfl T.C_NoNumber rfl) (pa_cons (pe_glob (v := .ref T.A.NoRow) rfl T.C_NoRow rfl) (pa_cons (pe_glob (v := .ref T.A.NoText) rfl T.C_NoText rfl) (pa_cons (pe_glob (v := .ref T.A.NoTongue) rfl T.C_NoTongue rfl) (pa_cons (pe_glob (v := .ref T.A.NoTree) rfl T.C_NoTree rfl) (pa_cons (pe_glob (v := .ref T.A.NoTurn) rfl T.C_NoTurn rfl) pa_nil)))))))))) pa_nil))))
(pss_one (ps_ret (pe_lst (pa_cons pe_str pa_nil))))
pss_nil)
(pss_cons (ps_if (pt_val (pe_callB (call_isYT_k K) (by rfl) T.b_isinstance (by decide +kernel) (pa_cons (pv 2) (pa_cons (pe_tup (pa_cons (pe_glob (v := .ref T.A.NoUndo) rfl T.C_NoUndo rfl) (pa_cons (pe_glob (v := .ref T.A.NoWants) rfl T.C_NoWants rfl) (pa_cons (pe_glob (v := .ref T.A.TooMany) rfl T.C_TooMany rfl) (pa_cons (pe_glob (v := .ref T.A.Unknown) rfl T.C_Unknown rfl) pa_nil))))) pa_nil))))
(pss_one (ps_ret (pe_lst (pa_cons pe_str pa_nil))))
pss_nil)
(pss_one (ps_ret (pe_lst (pa_cons (pe_xfK K (pv 2)) pa_nil))))))))), ?_⟩
    have pl := bk.plain
    have zl : (zsOf (bkD bs)).length = bs.length := by
      show ((bs.map fun w => D.str (txt w)).map strOf).length = _
      rw [List.length_map, List.length_map]
    refine ⟨_, rfl, _, rfl, .ref b, v, bkD bs, d, rfl, .lst hb (dt_vsT bs), bk.ok.1, hI, ok, ld, fun e => (by rw [pl] at e; cases e), fun _ => ?_⟩
    rw [zl]
    refine ⟨fun e9 => (by rw [e] at e9; cases e9), fun u' hu dd H1 s1 hdd hx => ?_⟩
    have eu : u' = u := by
      rw [e] at hu
      exact (Option.some.inj hu).symm
    subst eu
    refine ⟨true, T.m_NoThing, fun _ a ha => ?_, fun q => nomatch q⟩
    have u1 := Same.upd (o := ExK (.ref T.A.NoThing) (some dd) a) ha
    have eA : (upd H1 a (ExK (.ref T.A.NoThing) (some dd) a)) a = some (ExK (.ref T.A.NoThing) (some dd) a) := upd_same
    have s2 := s1.trans u1
    have hx2 := u1 _ _ hx
    generalize upd H1 a (ExK (.ref T.A.NoThing) (some dd) a) = H2 at eA s2 hx2 ⊢
    have at2 : ∀ {H' : Hp}, Same H2 H' → ExAt H' T.A.NoThing a := fun {H'} sx => .inr ⟨dd, _, sx _ _ eA, sx _ _ hx2⟩
    have lk : List.lookup ("place" : Str) [(("place" : Str), u')] = some u' := by simp [List.lookup]
    refine ⟨_, rfl, a, _, _, _, _, rfl, at2 (Same.refl _), T.X_NoThing.c, .own _, T.q_NoThing_NoThing, _, rfl, iteF ?_⟩
    refine ⟨_, rfl, a, _, _, _, _, rfl, at2 (Same.refl _), T.X_NoThing.c, .ty _, T.q_NoThing_ValueError, _, rfl, iteF ?_⟩
    obtain ⟨du, hdu, nb⟩ : ∃ du, Dt H2 u' du ∧ isBl du = false := by
      rcases bad_kindR e with rfl | ⟨n, rfl, _⟩
      · exact ⟨.non, .non, rfl⟩
      · exact ⟨.int _, .int _, rfl⟩
    have kb := kd_bool du
    rw [nb] at kb
    refine ⟨_, rfl, a, _, dd, _, u', rfl, eA, hx2, T.X_NoThing.c, T.X_NoThing.n, lk, _, _, _, _, _, rfl, .ty _, hdu.ty, kit_ty kb, _, rfl, iteF ?_⟩
    refine ⟨_, rfl, (by show 9 ≤ sizeLine; decide), fun p1 hp1 => ?_⟩
    have v1 := Same.upd (o := .tup [.ref T.A.BadSign, .ref T.A.NoBook, .ref T.A.NoCount, .ref T.A.NoNumber, .ref T.A.NoRow, .ref T.A.NoText, .ref T.A.NoTongue, .ref T.A.NoTree, .ref T.A.NoTurn]) hp1
    refine ⟨a, _, p1, _, _, false, rfl, at2 v1, T.X_NoThing.c, upd_same, cls_all (cs := [_, _, _, _, _, _, _, _, _]), kit_none ?_, _, rfl, iteF ?_⟩
    · intro x hx
      simp only [List.map_cons, List.map_nil, List.mem_cons, List.not_mem_nil, or_false] at hx
      rcases hx with rfl | rfl | rfl | rfl | rfl | rfl | rfl | rfl | rfl
      · exact T.q_NoThing_BadSign
      · exact T.q_NoThing_NoBook
      · exact T.q_NoThing_NoCount
      · exact T.q_NoThing_NoNumber
      · exact T.q_NoThing_NoRow
      · exact T.q_NoThing_NoText
      · exact T.q_NoThing_NoTongue
      · exact T.q_NoThing_NoTree
      · exact T.q_NoThing_NoTurn
    refine ⟨_, rfl, (by show 4 ≤ sizeLine; decide), fun p2 hp2 => ?_⟩
    have v2 := v1.trans (Same.upd (o := .tup [.ref T.A.NoUndo, .ref T.A.NoWants, .ref T.A.TooMany, .ref T.A.Unknown]) hp2)
    refine ⟨a, _, p2, _, _, false, rfl, at2 v2, T.X_NoThing.c, upd_same, cls_all (cs := [_, _, _, _]), kit_none ?_, _, rfl, iteF ?_⟩
    · intro x hx
      simp only [List.map_cons, List.map_nil, List.mem_cons, List.not_mem_nil, or_false] at hx
      rcases hx with rfl | rfl | rfl | rfl
      · exact T.q_NoThing_NoUndo
      · exact T.q_NoThing_NoWants
      · exact T.q_NoThing_TooMany
      · exact T.q_NoThing_Unknown
    exact ⟨_, rfl, a, _, dd, _, u', rfl, v2 _ _ eA, v2 _ _ hx2, T.X_NoThing.c, T.X_NoThing.n, lk, (by show 1 ≤ sizeLine; decide), fun p hp => k p _ ((s2.trans v2).trans (Same.upd hp)) upd_same⟩
end
end Dear

namespace Dear
open PySem PySem.Spec PyProof.Rows L2
theorem rowV_len (ns : List Nat) : (rowV ns).length = ns.length := List.length_map ..
section
variable {P : Program} {w : World} {K : PySem.W.Frag} {mg : Str → Option Value} {base : Heap}
theorem o__law_spoiled (T : Txt K mg) : OkF P w K mg base CX0 3 "_law_spoiled" ["_law_pool_here", "_law_row", "_law_many"] spSpoil20 := by
  have o__law_take := o__law_take (P := P) (w := w) (base := base) T
  have o__law_odd := o__law_odd (P := P) (w := w) (base := base) T
  refine T.f__law_spoiled.ok c__law_spoiled (fun vs H Q E h => ?_) (fun f cdv A outer s H vs Q E hr h => ?_)
  · obtain ⟨l, p, ns, n, rfl, _⟩ := h
    rfl
  · obtain ⟨l, p, ns, n, rfl, S, pl, hp, nl, n9, n20, k⟩ := h
    have xl := rowV_len ns
    refine ⟨_, (pss_cons (ps_if (pt_cmpR op_eq (pe_c o__law_take hr (pa_cons (pv 0) (pa_cons pe_int pa_nil))) pe_int (nomark _))
(pss_one (ps_ret (pe_ix (ix_list_k K) (pe_lst (pa_cons pe_non (pa_cons (pe_callTy (call_tuple_of_k K) (by rfl) T.b_tuple (by decide +kernel) (pa_cons (pv 1) pa_nil)) (pa_cons pe_dnewK (pa_cons pe_str (pa_cons pe_int (pa_cons pe_bl pa_nil))))))) (pe_c o__law_take hr (pa_cons (pv 0) (pa_cons pe_int pa_nil))) (fun _ _ => rfl))))
pss_nil)
(pss_cons (ps_set (i := 3) c__law_spoiled.nd rfl (Or.inl rfl) (pe_callTy (call_list_of_k K) (by rfl) T.b_list (by decide +kernel) (pa_cons (pv 1) pa_nil)))
(pss_cons (ps_for PassesOwn.never rfl (pi_range1 (by rfl) T.b_range (pa_cons (pe_op op_add pe_int (pe_c o__law_take hr (pa_cons (pv 0) (pa_cons pe_int pa_nil)))) pa_nil)) (pg_name (i := 4) c__law_spoiled.nd rfl (Or.inl rfl))
(pss_cons (ps_set (i := 5) c__law_spoiled.nd rfl (Or.inl rfl) (pe_c o__law_take hr (pa_cons (pv 0) (pa_cons (pe_op op_add (pe_callB (call_len_seq_k K) (by rfl) T.b_len PySem.boot_len (pa_cons (pv 3) pa_nil)) pe_int) pa_nil))))
(pss_one (ps_set (i := 3) c__law_spoiled.nd rfl (Or.inl rfl) (pe_op op_cat (pe_op op_cat (pe_slice (sl_list_k K) (pv 3) po_none (po_some (pv 5))) (pe_lst (pa_cons (pe_c o__law_odd hr (pa_cons (pv 0) (pa_cons (pv 2) pa_nil))) pa_nil))) (pe_slice (sl_list_k K) (pv 3) (po_some (pv 5)) po_none))))))
(pss_one (ps_ret (pv 3)))))), ?_⟩
    refine ⟨_, rfl, l, 6, rfl, S, by decide, log_le 6 (by decide), fun way H1 y0 y1 B1 S1 => ?_⟩
    have hp1 := B1 _ _ hp pl
    obtain ⟨lx, hl1⟩ := S1.lst
    refine ⟨rfl, _, rfl, itd (fun _ => ?_) fun _ => ?_⟩
    · refine s_ret (s_op ?_)
      refine Mk.go (l := l) (by exact (mk_lst (mka_cons (mk_c .non) (mka_cons (mk_tupof rfl hp1 (dt_row ns) hl1) (mka_cons (mk_dnew hl1) (mka_cons (mk_c (.str _)) (mka_cons (mk_c (.int _)) (mka_cons (mk_c (.bl _)) mka_nil)))))) hl1)) fun v2 H2 s2 d2 => ?_
      refine ⟨_, rfl, l, 6, rfl, S1.same s2, by decide, log_le 6 (by decide), fun r H3 r0 r1 B3 S3 => ?_⟩
      cases d2 with
      | lst ha2 hall2 =>
        obtain ⟨zs, v, d, g1, g2, g3, g4, hm⟩ := pick (.lst ha2 hall2) ⟨trivial, ok_row n9, trivial, okS, okI, trivial, trivial⟩ B3 r0 r1
        have bad : rowBad n d = some .non ∧ lenD d = 0 := by
          simp only [List.mem_cons, List.not_mem_nil, or_false] at hm
          rcases hm with rfl | rfl | rfl | rfl | rfl | rfl <;> exact ⟨rfl, rfl⟩
        exact ⟨_, _, _, v, rfl, rfl, SqL.of g1, g2, k v d .non H3 ((B1.trans (.of s2)).trans B3) S3 g3 g4 (by rw [bad.2]; decide) bad.1⟩
    · refine s_nx ?_
      dsimp only
      refine ⟨_, rfl, p, _, rfl, .inl (SqL.of hp1), fun q hq => ?_⟩
      have nq : q ≠ l := S1.ne hq
      have u2 := Same.upd (o := .lst (rowV ns)) hq
      have S2 := S1.same u2
      refine ⟨_, rfl, l, 2, rfl, S2, by decide, log_le 2 (by decide), fun r H3 r0 r1 B3 S3 => ⟨_, _, rfl, rfl, ?_⟩⟩
      have B13 : But l H1 H3 := (But.of u2).trans B3
      have hq3 : H3 q = some (.lst (rowV ns)) := B3 _ _ upd_same nq
      refine ⟨_, rfl, by omega, by omega, for_range (lo := 0) (n := (1 + r).toNat) (fun j σ H' => But l H1 H' ∧ Src H' l ∧ ∃ (q : Addr) (ys : List V) (ds : List D) (v4 v5 : Option V), H1 q = none ∧ q ≠ l ∧ H' q = some (.lst ys) ∧ DtAll (Off q (Off l H')) ys ds ∧ OkAll ds ∧ ys.length ≤ 100 + j ∧ (0 < j → ∃ d ∈ ds, ¬ goodI n d) ∧ σ = [some (.ref l), some (.ref p), some (.int (n : Nat)), some (.ref q), v4, v5])
        ⟨B13, S3, q, _, _, _, _, hq, nq, hq3, dt_row ns, ok_row n9, by omega, fun h => absurd h (Nat.lt_irrefl _), rfl⟩ ?_ ?_⟩
      · rintro j σ H4 hj ⟨B4, S4, q, ys, ds, v4, v5, hq, nq, hq4, da, oka, y9, _, rfl⟩
        have ylen : ys.length = ds.length := da.length
        refine ⟨_, rfl, _, rfl, _, _, rfl, .inl (SqL.of hq4), _, _, rfl, rfl, l, _, rfl, S4, by omega, log_le 200 (by omega), fun at_ H5 a0 a1 B5 S5 => ?_⟩
        obtain ⟨an, rfl⟩ := Int.eq_ofNat_of_zero_le a0
        have B15 := B4.trans B5
        have hq5 := B5 _ _ hq4 nq
        have da5 : DtAll (Off q (Off l H5)) ys ds := da.same fun b o e => by
          obtain ⟨n1, e1⟩ := off_some e
          obtain ⟨n2, e2⟩ := off_some e1
          rw [off_ne n1, off_ne n2]
          exact B5 _ _ e2 n2
        refine ⟨_, rfl, _, rfl, _, rfl, _, _, rfl, SqL.of hq5, fun t1 ht1 => ?_⟩
        rw [cutV_pre]
        have u1 := Same.upd (o := .lst (ys.take an)) ht1
        have e1 : (upd H5 t1 (.lst (ys.take an))) t1 = some (.lst (ys.take an)) := upd_same
        generalize upd H5 t1 (.lst (ys.take an)) = H6 at u1 e1 ⊢
        have S6 := S5.same u1
        have nt1 : t1 ≠ l := S5.ne ht1
        refine ⟨_, rfl, _, rfl, l, n, rfl, S6, n20, fun v d H7 B7 S7 hv okv ng => ?_⟩
        refine ⟨(by show 1 ≤ sizeLine; decide), fun t3 ht3 => ?_⟩
        have u3 := Same.upd (o := .lst [v]) ht3
        have e1' : (upd H7 t3 (.lst [v])) t1 = some (.lst (ys.take an)) := u3 _ _ (B7 _ _ e1 nt1)
        refine ⟨t1, t3, _, _, rfl, rfl, e1', upd_same, sz_lit ?_, fun t4 ht4 => ?_⟩
        · have := List.length_take_le an ys
          show (ys.take an).length + 1 ≤ 1000
          omega
        have u4 := Same.upd (o := .lst (ys.take an ++ [v])) ht4
        have e4 : (upd (upd H7 t3 (.lst [v])) t4 (.lst (ys.take an ++ [v]))) t4 = some (.lst (ys.take an ++ [v])) := upd_same
        have s7 := u3.trans u4
        generalize upd (upd H7 t3 (.lst [v])) t4 (.lst (ys.take an ++ [v])) = H10 at s7 e4 ⊢
        have hq10 := s7 _ _ (B7 _ _ (u1 _ _ hq5) nq)
        refine ⟨_, rfl, _, rfl, _, rfl, _, _, rfl, SqL.of hq10, fun t5 ht5 => ?_⟩
        rw [cutV_from]
        have u5 := Same.upd (o := .lst (ys.drop an)) ht5
        refine ⟨t4, t5, _, _, rfl, rfl, u5 _ _ e4, upd_same, sz_lit ?_, fun t6 ht6 => ?_⟩
        · have h1 := List.length_take_le an ys
          have h2 : (ys.drop an).length ≤ ys.length := by rw [List.length_drop]; omega
          rw [List.length_append]
          show (ys.take an).length + 1 + (ys.drop an).length ≤ 1000
          omega
        have u6 := Same.upd (o := .lst (ys.take an ++ [v] ++ ys.drop an)) ht6
        have s10 := u5.trans u6
        have e6 : (upd (upd H10 t5 (.lst (ys.drop an))) t6 (.lst (ys.take an ++ [v] ++ ys.drop an))) t6 = some (.lst (ys.take an ++ [v] ++ ys.drop an)) := upd_same
        have nt6 : (H10 t6 = none) := same_none u5 ht6
        generalize upd (upd H10 t5 (.lst (ys.drop an))) t6 (.lst (ys.take an ++ [v] ++ ys.drop an)) = H12 at s10 e6 ⊢
        have s712 := s7.trans s10
        have B512 : But l H5 H12 := ((But.of u1).trans B7).trans (.of s712)
        have S12 := S7.same s712
        have n6l : t6 ≠ l := (S7.same s7).ne nt6
        have n61 : H1 t6 = none := B15.none (((But.of u1).trans (B7.trans (.of s7))).none nt6 n6l) n6l
        have daN : DtAll (Off t6 (Off l H12)) ys ds := da5.same fun b o e => by
          obtain ⟨n1, e1⟩ := off_some e
          obtain ⟨n2, e2⟩ := off_some e1
          have e10 : H10 b = some o := s7 _ _ (B7 _ _ (u1 _ _ e2) n2)
          rw [off_ne (ne_of_none e10 nt6), off_ne n2]
          exact s10 _ _ e10
        obtain ⟨o6, ho6⟩ := S6.some
        have dN : Dt (Off t6 (Off l H12)) v d := hv.same fun b o e => by
          obtain ⟨h1, h2⟩ := new_some e
          have n2 : b ≠ l := fun z => by
            rw [z, ho6] at h1
            cases h1
          have e10 : H10 b = some o := s7 _ _ h2
          rw [off_ne (ne_of_none e10 nt6), off_ne n2]
          exact s10 _ _ e10
        refine ⟨B15.trans B512, S12, t6, _, ds.take an ++ [d] ++ ds.drop an, _, _, n61, n6l, e6, ((daN.take an).app (.cons dN .nil)).app (daN.drop an), (((oka.take an).app (es := [_]) ⟨okv, trivial⟩).app (oka.drop an)), ?_, fun _ => ⟨d, by simp, ng⟩, rfl⟩
        rw [List.length_append, List.length_append, List.length_take, List.length_drop]
        show _ + 1 + _ ≤ 100 + (j + 1)
        omega
      · rintro σ H4 ⟨B4, S4, q, ys, ds, v4, v5, hq, nq, hq4, da, oka, y9, bad, rfl⟩
        obtain ⟨u, hu⟩ := bad_of (bad (by omega))
        have ylen : ys.length = ds.length := da.length
        exact ⟨_, rfl, k (.ref q) (.lst ds) u H4 (B1.trans B4) S4 (.lst (by rw [off_ne nq]; exact hq4) (da.same (Off.sub _ _))) oka (by show ds.length ≤ 2000; omega) hu⟩
/-- the text that a row writes -/
def wrote (bs : List (List Nat)) (ns : List Nat) : Str := Txt.join "" (ns.map fun k => (bs.map txt).getD k "")
theorem wrote_is (bs : List (List Nat)) (ns : List Nat) : rowT (zsOf (bkD bs)) (rowD ns) = wrote bs ns := by
  have e : zsOf (bkD bs) = bs.map txt := by
    show (bs.map fun w => D.str (txt w)).map strOf = _
    rw [List.map_map]
    rfl
  rw [e]
  show Txt.join "" ((ns.map fun k => D.int (k : Nat)).map fun d => (bs.map txt).getD (idxD d) "") = _
  rw [List.map_map]
  rfl
theorem row_good {n : Nat} : ∀ {ns : List Nat} {i : Nat}, (∀ k ∈ ns, k < n) → badIx n i (ns.map fun k => D.int (k : Nat)) = none
  | [], _, _ => rfl
  | k :: r, i, h => by
    have hk := h k List.mem_cons_self
    show (if 0 ≤ (k : Int) ∧ (k : Int) < n then badIx n (i + 1) (r.map fun k => D.int (k : Nat)) else some (.int (i : Nat))) = none
    rw [if_pos ⟨by omega, by omega⟩]
    exact row_good fun x hx => h x (List.mem_cons_of_mem _ hx)
def abRow (n : Nat) : List Nat := (List.replicate n [0, 1]).flatten
theorem ab_vals (n : Nat) : (List.replicate n [V.int 0, V.int 1]).flatten = rowV (abRow n) := by
  unfold abRow rowV
  rw [List.map_flatten, List.map_replicate]
  rfl
theorem ab_lt (n : Nat) : ∀ k ∈ abRow n, k < 2 := fun k hk => by
  unfold abRow at hk
  obtain ⟨l, hl, hk⟩ := List.mem_flatten.mp hk
  have := List.eq_of_mem_replicate hl
  subst this
  simp only [List.mem_cons, List.not_mem_nil, or_false] at hk
  omega
theorem ab_len (n : Nat) : (abRow n).length = n * 2 := by
  unfold abRow
  simp
theorem ab_wrote (n : Nat) : wrote [[97], [98]] (abRow n) = txt (repT [97, 98] n) := by
  rw [txt_of (wrote [[97], [98]] (abRow n))]
  congr 1
  unfold wrote
  rw [join_tl]
  induction n with
  | zero => rfl
  | succ n ih =>
    have e1 : abRow (n + 1) = [0, 1] ++ abRow n := by
      unfold abRow
      rw [List.replicate_succ, List.flatten_cons]
    have e2 : repT [97, 98] (n + 1) = [97, 98] ++ repT [97, 98] n := by
      unfold repT
      rw [List.replicate_succ, List.flatten_cons]
    rw [e1, e2, ← ih, List.map_append, List.map_append, List.flatten_append]
    rfl
theorem ab_ok : BkOk [[97], [98]] := by
  refine ⟨?_, ?_, by decide, by decide⟩
  · refine List.Pairwise.cons ?_ (List.pairwise_singleton _ _)
    intro b hb
    have : b = [98] := by simpa using hb
    subst this
    exact ⟨by decide, by decide⟩
  · intro w hw
    simp only [List.mem_cons, List.not_mem_nil, or_false] at hw
    rcases hw with rfl | rfl
    · exact ⟨by decide +kernel, by decide, by decide⟩
    · exact ⟨by decide +kernel, by decide, by decide⟩
theorem dt_bk {H : Hp} {b : Addr} {bs : List (List Nat)} (h : H b = some (.lst (vsT bs))) : Dt H (.ref b) (bkD bs) := .lst h (dt_vsT bs)
theorem dt_rw {H : Hp} {b : Addr} {ns : List Nat} (h : H b = some (.lst (rowV ns))) : Dt H (.ref b) (rowD ns) := .lst h (dt_row ns)
theorem ok_rowD {ns : List Nat} (h : ∀ k ∈ ns, k < 20) : Ok (rowD ns) := ok_row h
/-- write_row of a plain book and a row of its numbers -/
theorem write_good {C1 C2 : Addr} {H : Hp} {Q : VK} {E : XK} {b r : Addr} {bs : List (List Nat)} {ns : List Nat} (hb : H b = some (.lst (vsT bs))) (bk : BkOk bs) (hr : H r = some (.lst (rowV ns))) (hn : ∀ k ∈ ns, k < bs.length) (hl : ns.length ≤ 2000)
    (k : ∀ H', Same H H' → Q (.str (wrote bs ns)) H') : spWrite C1 C2 [.ref b, .ref r] H Q E := by
  have pl := bk.plain
  have zl : (zsOf (bkD bs)).length = bs.length := by
    show ((bs.map fun w => D.str (txt w)).map strOf).length = _
    rw [List.length_map, List.length_map]
  have l20 := bk.l20
  have gd : rowBad (zsOf (bkD bs)).length (rowD ns) = none := by
    rw [zl]
    exact row_good hn
  refine ⟨.ref b, .ref r, bkD bs, rowD ns, rfl, dt_bk hb, bk.ok.1, dt_rw hr, ok_rowD fun x hx => by have := hn x hx; omega, ?_, fun e => (by rw [pl] at e; cases e), fun _ => ⟨fun _ H' s => ?_, fun u hu => (by rw [gd] at hu; cases hu)⟩⟩
  · show (ns.map fun k => D.int (k : Nat)).length ≤ 2000
    rw [List.length_map]
    exact hl
  · rw [wrote_is]
    exact k H' s
end
end Dear

namespace Dear
open PySem PySem.Spec PyProof.Rows L2
theorem badR_dt {n : Nat} {d : D} {u : V} (e : rowBad n d = some u) (hl : lenD d ≤ 2000) : ∃ ds : List D, (∀ H, DtAll H [u] ds) ∧ OkAll ds ∧ NoDAll ds ∧ depAll ds ≤ 0 := by
  rcases bad_kindR e with rfl | ⟨n, rfl, hn⟩
  · exact ⟨[.non], fun _ => .cons .non .nil, ⟨trivial, trivial⟩, ⟨trivial, trivial⟩, Nat.le_refl _⟩
  · exact ⟨[.int n], fun _ => .cons (.int _) .nil, ⟨lt300 (Nat.lt_of_lt_of_le (show ((n : Nat) : Int).natAbs < 2 ^ 20 by omega) (by decide)), trivial⟩, ⟨trivial, trivial⟩, Nat.le_refl _⟩
theorem row_facts {ns : List Nat} (h : ∀ k ∈ ns, k < 20) : Ok (rowD ns) ∧ NoD (rowD ns) ∧ dep (rowD ns) ≤ 1 := by
  refine ⟨ok_row h, ?_, ?_⟩
  · refine noAll_of fun d hd => ?_
    obtain ⟨w, hw, rfl⟩ := List.mem_map.mp hd
    trivial
  · have := depAll_le (ds := ns.map fun k => D.int (k : Nat)) (n := 0) fun d hd => by
      obtain ⟨w, hw, rfl⟩ := List.mem_map.mp hd
      exact Nat.le_refl _
    show depAll (ns.map fun k => D.int (k : Nat)) + 1 ≤ 1
    omega
theorem bk_dep (bs : List (List Nat)) : dep (bkD bs) ≤ 1 := by
  have := depAll_le (ds := bs.map fun w => D.str (txt w)) (n := 0) fun d hd => by
    obtain ⟨w, hw, rfl⟩ := List.mem_map.mp hd
    exact Nat.le_refl _
  show depAll (bs.map fun w => D.str (txt w)) + 1 ≤ 1
  omega
theorem vsT_at {bs : List (List Nat)} {k : Nat} (h : k < bs.length) : ∃ z, (vsT bs)[k]? = some (.str z) ∧ (bs.map txt).getD k "" = z ∧ z.length ≤ (bs[k]).length := by
  refine ⟨txt bs[k], ?_, ?_, ?_⟩
  · unfold vsT
    rw [List.getElem?_map, List.getElem?_eq_getElem h]
    rfl
  · rw [List.getD_eq_getElem?_getD, List.getElem?_map, List.getElem?_eq_getElem h]
    rfl
  · rw [txt_length]
    exact Nat.le_refl _
theorem wrote_size {bs : List (List Nat)} (bk : BkOk bs) {ns : List Nat} (hl : ns.length ≤ 2000) : ((ns.map fun k => (bs.map txt).getD k "").map (·.length)).sum + (ns.map fun k => (bs.map txt).getD k "").length * ("" : Str).length ≤ 16777216 := by
  have e0 : ("" : Str).length = 0 := by decide +kernel
  have := sum_le (ys := ns.map fun k => (bs.map txt).getD k "") (n := 8) fun y hy => by
    obtain ⟨d, _, rfl⟩ := List.mem_map.mp hy
    refine mem_getD fun z hz => ?_
    obtain ⟨w, hw, rfl⟩ := List.mem_map.mp hz
    rw [txt_length]
    exact (bk.all w hw).hi
  rw [List.length_map] at this
  rw [e0, List.length_map]
  omega
section
variable {P : Program} {w : World} {K : PySem.W.Frag} {mg : Str → Option Value} {base : Heap}
theorem ok_law (T : Txt K mg) {f : Addr} {fd : FuncData} (F : Fun K "law" "law" s_law f fd) : FnOk P w K mg base CX0 7 f fd ["_law_script"] (spLaw K) := by
  have o__law_pool := o__law_pool (P := P) (w := w) (base := base) T
  have o__law_take := o__law_take (P := P) (w := w) (base := base) T
  have o__law_plain := o__law_plain (P := P) (w := w) (base := base) T
  have o__law_spoiled := o__law_spoiled (P := P) (w := w) (base := base) T
  have o__law_place := o__law_place (P := P) (w := w) (base := base) T
  have o__law_due := o__law_due (P := P) (w := w) (base := base) T
  have o_write_row := o_write_row (P := P) (w := w) (base := base) T
  refine F.ok c_law (fun vs H Q E h => ?_) (fun cdv A outer s H vs Q E hr h => ?_)
  · obtain ⟨a, ns, rfl, _⟩ := h
    rfl
  · obtain ⟨a, ns, rfl, hS, hlen, k⟩ := h
    refine ⟨_, (pss_cons (ps_set (i := 1) c_law.nd rfl (Or.inr rfl) (pe_c o__law_plain hr (pa_cons (pe_c o__law_pool hr (pa_cons (pv 0) (pa_cons pe_int pa_nil))) pa_nil)))
(pss_cons (ps_setLc (i := 2) (own := [("_law_k", 9)]) (g := gName 9) (tt := tYes) (by rfl) c_law.nd rfl rfl (sw_true rfl rfl rfl (by decide +kernel)) (pi_range2 (by rfl) T.b_range (pa_cons pe_int (pa_cons (pe_callB (call_min2 rfl) (by rfl) T.b_min (by decide +kernel) (pa_cons (pe_callB (call_len_seq_k K) (by rfl) T.b_len PySem.boot_len (pa_cons (pv 0) pa_nil)) (pa_cons pe_int pa_nil))) pa_nil))) (blkOk_by (own := [("_law_k", 9)]) (N := n_law) (sc := defScope s_law) (by decide +kernel)) (fun _ _ _ _ _ => (pg_name (i := 9) c_law.nd rfl (Or.inl rfl))) (fun _ _ _ _ _ => pts_nil) (fun _ _ _ _ _ => (pe_c o__law_take hr (pa_cons (pe_c o__law_pool hr (pa_cons (pv 0) (pa_cons (pv 9) pa_nil))) (pa_cons (pe_callB (call_len_seq_k K) (by rfl) T.b_len PySem.boot_len (pa_cons (pv 1) pa_nil)) pa_nil)))))
(pss_cons (ps_set (i := 3) c_law.nd rfl (Or.inr rfl) (pe_lst (pa_cons (pe_callTy (call_list_of_k K) (by rfl) T.b_list (by decide +kernel) (pa_cons (pv 1) pa_nil)) (pa_cons (pe_callTy (call_list_of_k K) (by rfl) T.b_list (by decide +kernel) (pa_cons (pv 2) pa_nil)) pa_nil))))
(pss_cons (ps_set (i := 4) c_law.nd rfl (Or.inl rfl) (pe_join_k K pe_str (pe_lc (own := [("_law_number", 10)]) (g := gName 10) (tt := tYes) (by rfl) c_law.nd (pi_list_k K (pv 2)) (blkOk_by (own := [("_law_number", 10)]) (N := n_law) (sc := defScope s_law) (by decide +kernel)) (fun _ _ _ _ _ => (pg_name (i := 10) c_law.nd rfl (Or.inl rfl))) (fun _ _ _ _ _ => pts_nil) (fun _ _ _ _ _ => (pe_ix (ix_list_k K) (pe_ix (ix_list_k K) (pv 3) pe_int (fun _ _ => rfl)) (pv 10) (fun _ _ => rfl))))))
(pss_cons (ps_set (i := 5) c_law.nd rfl (Or.inl rfl) (pe_cx o_write_row hr takes0 (pa_cons (pv 1) (pa_cons (pv 2) pa_nil))))
(pss_cons (ps_if (PW.pt (pw_or (pt_not (pt_val (pe_callB (call_isi_k K) (by rfl) T.b_isinstance (by decide +kernel) (pa_cons (pv 5) (pa_cons (pe_bltn (v := .ty "str") (by rfl) T.b_str (by decide +kernel) rfl) pa_nil))))) (pw_or (pt_cmpR op_ne (pv 5) (pv 4) (nomark _)) (pw_or1 (pt_cmpR op_ne (pe_cx o_write_row hr takes0 (pa_cons (pv 1) (pa_cons (pe_lst pa_nil) pa_nil))) pe_str (nomark _))))))
(pss_one (ps_ret pe_bl))
pss_nil)
(pss_cons (ps_if (pt_cmpR op_ne (pe_cx o_write_row hr takes0 (pa_cons (pe_lst (pa_cons pe_str (pa_cons pe_str pa_nil))) (pa_cons (pe_op op_rep (pe_lst (pa_cons pe_int (pa_cons pe_int pa_nil))) pe_int) pa_nil))) (pe_op op_repS pe_str pe_int) (nomark _))
(pss_one (ps_ret pe_bl))
pss_nil)
(pss_cons (ps_set (i := 6) c_law.nd rfl (Or.inl rfl) (pe_c o__law_pool hr (pa_cons (pv 0) (pa_cons (pe_callB (call_max2 rfl) (by rfl) T.b_max (by decide +kernel) (pa_cons pe_int (pa_cons (pe_op op_sub (pe_callB (call_len_seq_k K) (by rfl) T.b_len PySem.boot_len (pa_cons (pv 0) pa_nil)) pe_int) pa_nil))) pa_nil))))
(pss_cons (ps_for PassesOwn.never rfl (pi_range1 (by rfl) T.b_range (pa_cons pe_int pa_nil)) (pg_name (i := 7) c_law.nd rfl (Or.inl rfl))
(pss_cons (ps_set (i := 8) c_law.nd rfl (Or.inl rfl) (pe_c o__law_spoiled hr (pa_cons (pv 6) (pa_cons (pv 2) (pa_cons (pe_callB (call_len_seq_k K) (by rfl) T.b_len PySem.boot_len (pa_cons (pv 1) pa_nil)) pa_nil)))))
(pss_one (ps_if (pt_cmpR (op_neD_k K hr.units) (pe_c o__law_place hr (pa_cons (pv 1) (pa_cons (pv 8) pa_nil))) (pe_c o__law_due hr (pa_cons (pv 8) (pa_cons (pe_callB (call_len_seq_k K) (by rfl) T.b_len PySem.boot_len (pa_cons (pv 1) pa_nil)) pa_nil))) (nomark _))
(pss_one (ps_ret pe_bl))
pss_nil))))
(pss_one (ps_ret (pe_and (pe_cmpR op_eq (pe_cx o_write_row hr takes0 (pa_cons (pv 1) (pa_cons (pv 2) pa_nil))) (pv 4) (nomark _)) (pe_one (pe_cmpR (op_eqD_k K hr.units) (pe_lst (pa_cons (pv 1) (pa_cons (pv 2) pa_nil))) (pv 3) (nomark _))))))))))))))), ?_⟩
    refine ⟨_, rfl, a, ns, 0, rfl, hS, by decide, by decide, fun l H1 hl s1 S1 => ⟨l, rfl, S1, fun b bs H2 hb2 nb B2 S2 hb bk => ?_⟩⟩
    have s2 : Same H H2 := But.same0 s1 hl B2
    have l1 := bk.l1
    have l20 := bk.l20
    have bl := vsT_len bs
    have nl : (ns.map V.int).length = ns.length := List.length_map ..
    -- the row
    refine ⟨_, rfl, _, _, rfl, .inl (s2.seq hS), _, _, rfl, _, _, rfl, ⟨by decide, by decide, ?_, ?_⟩, fun pD hD => lc_range (lo := 1) (fun i H' => Same H2 H' ∧ ∃ ks : List Nat, H' pD = some (.lst (rowV ks)) ∧ (∀ k ∈ ks, k < bs.length) ∧ ks.length = i) ⟨Same.upd hD, [], upd_same, (fun _ h => nomatch h), rfl⟩ ?_ ?_⟩
    · split <;> omega
    · split <;> omega
    · rintro i H' hi ⟨s3, ks, hk, kl, kn⟩
      have i63 : i < 63 := Nat.lt_of_lt_of_le hi (by split <;> omega)
      refine ⟨rfl, _, rfl, _, rfl, a, ns, _, rfl, (s2.trans s3).seq hS, by omega, by omega, fun l3 H3 hl3 s4 S3 => ?_⟩
      have hb3 := s4 _ _ (s3 _ _ hb)
      refine ⟨_, rfl, _, _, rfl, .inl (SqL.of hb3), l3, _, rfl, S3, by omega, log_le 20 (by omega), fun r H4 r0 r1 B4 S4 => ?_⟩
      have s34 : Same H' H4 := But.same0 s4 hl3 B4
      obtain ⟨rn, rfl⟩ := Int.eq_ofNat_of_zero_le r0
      refine ⟨_, s34 _ _ hk, ?_, ?_, ks ++ [rn], ?_, ?_, ?_⟩
      · rw [rowV_len]
        exact small1000 (by omega)
      · intro b9 o9 hb9
        rw [upd_ne (ne_of_none hb9 hD)]
        exact s34 _ _ (s3 _ _ hb9)
      · rw [upd_same]
        unfold rowV
        rw [List.map_append]
        rfl
      · intro x hx
        rcases List.mem_append.mp hx with hx | hx
        · exact kl x hx
        · have : x = rn := by simpa using hx
          subst this
          omega
      · rw [List.length_append, kn]
        rfl
    rintro H3 ⟨s3, ks, hk3, kl, kn⟩
    have kn63 : ks.length ≤ 63 := by
      rw [kn]
      split <;> omega
    have k20 : ∀ k ∈ ks, k < 20 := fun x hx => by have := kl x hx; omega
    have hb3 := s3 _ _ hb
    have rl := rowV_len ks
    -- kept
    refine ⟨_, rfl, b, _, rfl, .inl (SqL.of hb3), fun q1 hq1 => ?_⟩
    have u1 := Same.upd (o := .lst (vsT bs)) hq1
    refine ⟨_, rfl, pD, _, rfl, .inl (SqL.of (u1 _ _ hk3)), fun q2 hq2 => ?_⟩
    have u2 := Same.upd (o := .lst (rowV ks)) hq2
    refine ⟨(by show 2 ≤ sizeLine; decide), fun q3 hq3 => ?_⟩
    have u3 := Same.upd (o := .lst [.ref q1, .ref q2]) hq3
    have e1 : (upd (upd (upd H3 q1 (.lst (vsT bs))) q2 (.lst (rowV ks))) q3 (.lst [.ref q1, .ref q2])) q1 = some (.lst (vsT bs)) := u3 _ _ (u2 _ _ upd_same)
    have e2 : (upd (upd (upd H3 q1 (.lst (vsT bs))) q2 (.lst (rowV ks))) q3 (.lst [.ref q1, .ref q2])) q2 = some (.lst (rowV ks)) := u3 _ _ upd_same
    have e3 : (upd (upd (upd H3 q1 (.lst (vsT bs))) q2 (.lst (rowV ks))) q3 (.lst [.ref q1, .ref q2])) q3 = some (.lst [.ref q1, .ref q2]) := upd_same
    have s4 := (u1.trans u2).trans u3
    generalize upd (upd (upd H3 q1 (.lst (vsT bs))) q2 (.lst (rowV ks))) q3 (.lst [.ref q1, .ref q2]) = H4 at e1 e2 e3 s4 ⊢
    clear u1 u2 u3 hq1 hq2 hq3
    have hk4 := s4 _ _ hk3
    have hb4 := s4 _ _ hb3
    -- what it ought to write
    refine ⟨⟨_, rfl⟩, _, rfl, pD, rfl, ⟨_, SqL.of hk4⟩, fun pE hE => lc_list (K := K) (a := pD) (xs := rowV ks) (fun i H' => Same H4 H' ∧ H' pE = some (.lst (((ks.take i).map fun k => (bs.map txt).getD k "").map V.str))) ⟨Same.upd hE, upd_same⟩ (fun i H' _ e => SqL.of (e.1 _ _ hk4)) ?_ ?_⟩
    · rintro i x H' hx ⟨s5, e5⟩
      obtain ⟨k9, hk9, rfl⟩ : ∃ k9, ks[i]? = some k9 ∧ x = .int (k9 : Nat) := by
        unfold rowV at hx
        rw [List.getElem?_map] at hx
        cases q9 : ks[i]? with
        | none => rw [q9] at hx; cases hx
        | some k9 => rw [q9] at hx; exact ⟨k9, rfl, (Option.some.inj hx).symm⟩
      obtain ⟨z, hz, ez, _⟩ := vsT_at (kl k9 (List.mem_of_getElem? hk9))
      have i63 : i < 63 := by
        have := (List.getElem?_eq_some_iff.mp hk9).1
        omega
      refine ⟨rfl, _, rfl, _, _, _, _, rfl, rfl, SqL.of (s5 _ _ e3), rfl, _, rfl, _, _, _, .str z, rfl, rfl, SqL.of (s5 _ _ e1), atI_nat hz, _, e5, ?_, ?_, ?_⟩
      · rw [List.length_map, List.length_map, List.length_take]
        exact small1000 (by omega)
      · intro b9 o9 hb9
        rw [upd_ne (ne_of_none hb9 hE)]
        exact s5 _ _ hb9
      · rw [upd_same, take_more hk9, List.map_append, List.map_append]
        show some (HO.lst (_ ++ [V.str z])) = some (HO.lst (_ ++ [V.str ((bs.map txt).getD k9 "")]))
        rw [ez]
    rintro H5 ⟨s5, e5⟩
    rw [rl, List.take_length] at e5
    refine ⟨"", pE, _, rfl, rfl, .inl (SqL.of e5), wrote_size bk (by omega), ?_⟩
    rw [show Txt.join "" (ks.map fun k => (bs.map txt).getD k "") = wrote bs ks from rfl]
    have hb5 := s5 _ _ hb4
    have hk5 := s5 _ _ hk4
    refine ⟨_, rfl, _, rfl, ?_⟩
    dsimp only [tNil]
    refine write_good hb5 bk hk5 kl (by omega) fun H6 s6 => ?_
    refine ⟨_, rfl, _, _, _, _, _, rfl, .ty _, (Dt.str _).ty, kit_ty (kd_str (.str _)), _, rfl, iteF ⟨_, rfl, _, rfl, rfl, _, rfl, itnd (fun e => absurd rfl e) fun _ => ?_⟩⟩
    refine ⟨_, rfl, (by show 0 ≤ sizeLine; decide), fun pN hN => ?_⟩
    have u7 := Same.upd (o := .lst []) hN
    dsimp only [tNil]
    refine write_good (ns := []) (u7 _ _ (s6 _ _ hb5)) bk upd_same (fun _ h => nomatch h) (Nat.zero_le _) fun H8 s8 => ⟨rfl, _, rfl, itnd (fun e => absurd rfl e) fun _ => ?_⟩
    have s58 := s6.trans (u7.trans s8)
    clear u7 hN s8 s6
    -- a long row
    refine ⟨(by show 2 ≤ sizeLine; decide), fun pa hpa => ?_⟩
    have va := Same.upd (o := .lst [.str "a", .str "b"]) hpa
    refine ⟨(by show 2 ≤ sizeLine; decide), fun pb hpb => ?_⟩
    have vb := Same.upd (o := .lst [.int 0, .int 1]) hpb
    refine ⟨pb, 650, _, rfl, rfl, upd_same, by decide, by decide, (by rw [sizeLine_eq]; decide), fun pc hpc => ?_⟩
    have vc := Same.upd (o := .lst (List.replicate (650 : Int).toNat [V.int 0, V.int 1]).flatten) hpc
    have ea : [V.str "a", V.str "b"] = vsT [[97], [98]] := by
      show [V.str "a", V.str "b"] = [V.str (txt [97]), V.str (txt [98])]
      rw [show ("a" : Str) = txt [97] from by decide +kernel, show ("b" : Str) = txt [98] from by decide +kernel]
    have ec : (List.replicate (650 : Int).toNat [V.int 0, V.int 1]).flatten = rowV (abRow 650) := ab_vals 650
    dsimp only [tNil]
    refine write_good (bs := [[97], [98]]) (ns := abRow 650) (vc _ _ (vb _ _ (by rw [upd_same, ea]))) ab_ok (by rw [upd_same, ec]) (ab_lt 650) (by rw [ab_len]; decide) fun H9 s9 => ?_
    refine ⟨[97, 98], 650, (by rw [show ("ab" : Str) = txt [97, 98] from by decide +kernel]), rfl, by decide, by decide, by decide, ?_⟩
    rw [show txt (repT [97, 98] (650 : Int).toNat) = wrote [[97], [98]] (abRow 650) from (ab_wrote 650).symm]
    generalize wrote [[97], [98]] (abRow 650) = W9
    refine ⟨rfl, _, rfl, itnd (fun e => absurd rfl e) fun _ => ?_⟩
    have s59 := s58.trans (((va.trans vb).trans vc).trans s9)
    clear va vb vc s9 s58
    have s05 := ((s2.trans s3).trans s4).trans s5
    -- spoiled rows
    refine ⟨_, rfl, _, rfl, _, _, rfl, .inl ((s05.trans s59).seq hS), _, _, rfl, rfl, _, _, rfl, a, ns, _, rfl, (s05.trans s59).seq hS, ?_, ?_, fun l9 H10 hl9 s10 S10 => ?_⟩
    · split <;> omega
    · split <;> omega
    have hb9 := s59 _ _ hb5
    have hk9 := s59 _ _ hk5
    refine ⟨8, rfl, by decide, by decide, for_range (lo := 0) (n := 8) (fun j σ H' => Same H9 H' ∧ Src H' l9 ∧ ∃ v7 v8 v9 v10, σ = [some (.ref a), some (.ref b), some (.ref pD), some (.ref q3), some (.str (wrote bs ks)), some (.str (wrote bs ks)), some (.ref l9), v7, v8, v9, v10]) ⟨s10, S10, _, _, _, _, rfl⟩ ?_ ?_⟩
    · rintro j σ H11 hj ⟨s11, S11, v7, v8, v9, v10, rfl⟩
      have hb11 := s11 _ _ hb9
      have hk11 := s11 _ _ hk9
      have npl : pD ≠ l9 := ne_of_none hk9 hl9
      refine ⟨_, rfl, _, rfl, _, rfl, _, _, rfl, .inl (SqL.of hb11), l9, pD, ks, bs.length, (by rw [vsT_len]; rfl), S11, npl, hk11, by omega, k20, l20, fun v d u H12 B12 S12 hv okv ldv bad => ?_⟩
      have s12 : Same H9 H12 := fun c o e => B12 _ _ (s11 _ _ e) (ne_of_none e hl9)
      have hb12 := s12 _ _ hb9
      refine ⟨_, rfl, _, rfl, b, v, bs, d, u, rfl, hb12, bk, hv.on, okv, ldv, bad, fun p1 H13 s13 e13 => ?_⟩
      refine ⟨_, rfl, _, rfl, _, _, rfl, .inl (SqL.of (s13 _ _ hb12)), v, d, bs.length, (by rw [vsT_len]; rfl), hv.on.same s13, okv, ldv, fun p2 H14 s14 e14 => ?_⟩
      rw [badR_some bad] at e14
      obtain ⟨ds, hds, okds, nods, deps⟩ := badR_dt bad ldv
      have sh : SeqAt.shaped (py (.lst ds)) = true := shaped_py (d := .lst ds) okds nods (by show depAll ds + 1 ≤ 64; omega)
      refine ⟨_, _, (Dt.lst (s14 _ _ e13) (hds _)).dp (d := .lst ds) nods, (Dt.lst e14 (hds _)).dp (d := .lst ds) nods, sh, sh, ?_⟩
      rw [eqv_same sh]
      have s1214 := s13.trans s14
      exact ⟨_, rfl, iteF ⟨s12.trans s1214, S12.same s1214, _, _, _, _, rfl⟩⟩
    · rintro σ H11 ⟨s11, S11, v7, v8, v9, v10, rfl⟩
      refine ⟨_, rfl, _, rfl, ?_⟩
      dsimp only [tNil]
      refine write_good (s11 _ _ hb9) bk (s11 _ _ hk9) kl (by omega) fun H12 s12 => ⟨_, rfl, rfl, _, rfl, ?_⟩
      rw [decide_eq_true rfl]
      refine iteT ?_
      have s912 := s11.trans s12
      have s412 := (s5.trans s59).trans s912
      refine ⟨_, rfl, _, rfl, (by show 2 ≤ sizeLine; decide), fun pz hpz => ⟨_, rfl, ?_⟩⟩
      have uz := Same.upd (o := .lst [.ref b, .ref pD]) hpz
      have sz := s412.trans uz
      obtain ⟨r1, r2, r3⟩ := row_facts k20
      obtain ⟨b1, b2, _⟩ := bk.ok
      have b3 := bk_dep bs
      have ok2 : Ok (.lst [bkD bs, rowD ks]) := ⟨b1, r1, trivial⟩
      have no2 : NoD (.lst [bkD bs, rowD ks]) := ⟨b2, r2, trivial⟩
      have sh : SeqAt.shaped (py (.lst [bkD bs, rowD ks])) = true := shaped_py ok2 no2 (by show max (dep (bkD bs)) (max (dep (rowD ks)) 0) + 1 ≤ 64; omega)
      refine ⟨_, _, (Dt.lst upd_same (.cons (dt_bk (uz _ _ (s912 _ _ hb9))) (.cons (dt_rw (uz _ _ (s912 _ _ hk9))) .nil))).dp no2, (Dt.lst (sz _ _ e3) (.cons (dt_bk (sz _ _ e1)) (.cons (dt_rw (sz _ _ e2)) .nil))).dp no2, sh, sh, ?_⟩
      rw [eqv_same sh]
      exact k _
end
end Dear

namespace Dear
open PySem PySem.Spec PyProof.Rows L2
theorem walk {l : PySem.W.OpenLaw} {q : Program} {loose : List Str} {XP : (Str → Option Value) → Heap → Prop} {YP : World → Heap → Prop} {d : DefRec} {K : Params → PySem.W.Frag} (hn : l.most = some 63) (hdf : d.params.defaults = [])
    (hY : ∀ (w : World) (h : Heap), YP w h → (K w.params).In h)
    (F : ∀ (w : World) (mg : Str → Option Value) (fa : Addr) (h : Heap), (K w.params).In h → h.Ns mainGlobals mg → mg d.name = some (.ref fa) →
      ∃ fd : FuncData, (∀ (s : Shared) (u : Value), BindsTo s fd ⟨[u], []⟩ [("_law_script", u)]) ∧ ∀ base : Heap, (K w.params).In base → base.Ns mainGlobals mg → FnOk l.prog w (K w.params) mg base CX0 20 fa fd ["_law_script"] (spLaw (K w.params))) :
    PySem.W.WalkO q loose XP YP l.row.toRowW d [] (fun f vs => PySem.call f vs) :=
  L2.walk_of (n := 63) (k := 20) (x := "_law_script") (CX := fun _ => CX0) (sp := fun w => spLaw (K w.params)) hn (by decide) hdf ⟨rfl, by decide, by decide⟩ hY F (fun _ _ a ns hl _ hS => ⟨a, ns, rfl, hS, hl, fun _ => rfl⟩) fun _ _ _ _ _ z => z
theorem fin {l : PySem.W.OpenLaw} {w : World} {K : PySem.W.Frag} {h : Heap} {mg : Str → Option Value} {fa : Addr} (X : K.In h) (G : h.Ns mainGlobals mg) (hfa : mg "law" = some (.ref fa)) (T : Txt K mg) :
    ∃ fd : FuncData, (∀ (s : Shared) (v : Value), BindsTo s fd ⟨[v], []⟩ [("_law_script", v)]) ∧ ∀ base : Heap, K.In base → base.Ns mainGlobals mg → FnOk l.prog w K mg base CX0 20 fa fd ["_law_script"] (spLaw K) := by
  obtain ⟨f, fd, hm, F, hb⟩ := id T.f_law
  have e := hfa.symm.trans hm
  cases e
  refine ⟨fd, fun s v => ?_, fun base _ _ => (ok_law T F).mono (by decide)⟩
  obtain ⟨oc, od, kV, doc, pm, an, cdv, ct, osl, rfl, lk, hcd⟩ := F.ex
  exact .of_eq rfl
end Dear

open PySem PySem.W PyProof.Rows
set_option maxRecDepth 100000 in
set_option maxHeartbeats 0 in
theorem PySem.Challenge.cw_dearsigns_k20_rows_written_holds : PySem.Challenge.rw_dearsigns_k20_rows_written.Holds := by
  w_on; o_law; k_head; (case hw => w_witness2)
  k_fill
  refine Dear.walk (l := PySem.Challenge.rw_dearsigns_k20_rows_written) rfl rfl (fun w h Y => PySem.W.kIn_of Y) ?F
  case F =>
    intro w mg fa h KX G hmg
    refine Dear.fin KX G hmg ?T
    case T =>
      refine' Dear.txt_mk KX G ?g_DearError ?i_DearError ?t_DearError ?g_NoNumber ?i_NoNumber ?t_NoNumber ?g_NoBook ?i_NoBook ?t_NoBook ?g_NoTree ?i_NoTree ?t_NoTree ?g_TooMany ?i_TooMany ?t_TooMany ?g_NoCount ?i_NoCount ?t_NoCount ?g_NoUndo ?i_NoUndo ?t_NoUndo ?g_NoTurn ?i_NoTurn ?t_NoTurn ?g_NoRow ?i_NoRow ?t_NoRow ?g_Unknown ?i_Unknown ?t_Unknown ?g_NoTongue ?i_NoTongue ?t_NoTongue ?g_NoWants ?i_NoWants ?t_NoWants ?g_NoThing ?i_NoThing ?t_NoThing ?g_BadSign ?i_BadSign ?t_BadSign ?g_NoText ?i_NoText ?t_NoText ?b_DearError ?x1_NoBook ?x2_NoBook ?x3_NoBook ?x4_NoBook ?x5_NoBook ?x6_NoBook ?x7_NoBook ?x8_NoBook ?x9_NoBook ?x10_NoBook ?x11_NoBook ?d1 ?d2 ?d3 ?xl_NoThing ?sa_NoThing ?x2_NoThing ?x3_NoThing ?x4_NoThing ?x5_NoThing ?x6_NoThing ?x7_NoThing ?x8_NoThing ?x9_NoThing ?x10_NoThing ?x11_NoThing ?fn_NoThing ?i1_NoThing ?i2_NoThing ?i3_NoThing ?i4_NoThing ?i5_NoThing ?q_NoBook_DearError ?n_NoBook_DearError ?q_NoBook_NoNumber ?n_NoBook_NoNumber ?q_NoBook_NoBook ?q_NoBook_NoTree ?n_NoBook_NoTree ?q_NoBook_TooMany ?n_NoBook_TooMany ?q_NoBook_NoCount ?n_NoBook_NoCount ?q_NoBook_NoUndo ?n_NoBook_NoUndo ?q_NoBook_NoTurn ?n_NoBook_NoTurn ?q_NoBook_NoRow ?n_NoBook_NoRow ?q_NoBook_Unknown ?n_NoBook_Unknown ?q_NoBook_NoTongue ?n_NoBook_NoTongue ?q_NoBook_NoWants ?n_NoBook_NoWants ?q_NoBook_NoThing ?n_NoBook_NoThing ?q_NoBook_BadSign ?n_NoBook_BadSign ?q_NoBook_NoText ?n_NoBook_NoText ?q_NoBook_ValueError ?q_NoThing_DearError ?n_NoThing_DearError ?q_NoThing_NoNumber ?n_NoThing_NoNumber ?q_NoThing_NoBook ?n_NoThing_NoBook ?q_NoThing_NoTree ?n_NoThing_NoTree ?q_NoThing_TooMany ?n_NoThing_TooMany ?q_NoThing_NoCount ?n_NoThing_NoCount ?q_NoThing_NoUndo ?n_NoThing_NoUndo ?q_NoThing_NoTurn ?n_NoThing_NoTurn ?q_NoThing_NoRow ?n_NoThing_NoRow ?q_NoThing_Unknown ?n_NoThing_Unknown ?q_NoThing_NoTongue ?n_NoThing_NoTongue ?q_NoThing_NoWants ?n_NoThing_NoWants ?q_NoThing_NoThing ?q_NoThing_BadSign ?n_NoThing_BadSign ?q_NoThing_NoText ?n_NoThing_NoText ?q_NoThing_ValueError ?a1 ?l1 ?c1 ?k1 ?a2 ?l2 ?c2 ?k2 ?a3 ?l3 ?c3 ?k3 ?a4 ?l4 ?c4 ?k4 ?a5 ?l5 ?c5 ?k5 ?a6 ?l6 ?c6 ?k6 ?a7 ?l7 ?c7 ?k7 ?a8 ?l8 ?c8 ?k8 ?a9 ?l9 ?c9 ?k9 ?a10 ?l10 ?c10 ?k10 ?a11 ?l11 ?c11 ?k11 ?a12 ?l12 ?c12 ?k12 ?a13 ?a14 ?a15 ?a16 ?a17 ?a18 ?a19 ?a20 ?a21 ?a22 ?a23 ?a24 ?a25 ?a26 ?a27 ?a28
      (case g_DearError => k_is); (case i_DearError => k_is); (case t_DearError => k_is); (case g_NoNumber => k_is); (case i_NoNumber => k_is); (case t_NoNumber => k_is); (case g_NoBook => k_is); (case i_NoBook => k_is)
      (case t_NoBook => k_is); (case g_NoTree => k_is); (case i_NoTree => k_is); (case t_NoTree => k_is); (case g_TooMany => k_is); (case i_TooMany => k_is); (case t_TooMany => k_is); (case g_NoCount => k_is)
      (case i_NoCount => k_is); (case t_NoCount => k_is); (case g_NoUndo => k_is); (case i_NoUndo => k_is); (case t_NoUndo => k_is); (case g_NoTurn => k_is); (case i_NoTurn => k_is); (case t_NoTurn => k_is)
      (case g_NoRow => k_is); (case i_NoRow => k_is); (case t_NoRow => k_is); (case g_Unknown => k_is); (case i_Unknown => k_is); (case t_Unknown => k_is); (case g_NoTongue => k_is); (case i_NoTongue => k_is)
      (case t_NoTongue => k_is); (case g_NoWants => k_is); (case i_NoWants => k_is); (case t_NoWants => k_is); (case g_NoThing => k_is); (case i_NoThing => k_is); (case t_NoThing => k_is); (case g_BadSign => k_is)
      (case i_BadSign => k_is); (case t_BadSign => k_is); (case g_NoText => k_is); (case i_NoText => k_is); (case t_NoText => k_is); (case b_DearError => k_is); (case x1_NoBook => k_exc); (case x2_NoBook => k_is)
      (case x3_NoBook => k_is); (case x4_NoBook => k_is); (case x5_NoBook => k_is); (case x6_NoBook => k_is); (case x7_NoBook => k_is); (case x8_NoBook => k_is); (case x9_NoBook => k_is); (case x10_NoBook => k_is)
      (case x11_NoBook => k_is); (case d1 => k_is); (case d2 => k_is); (case d3 => k_is); (case xl_NoThing => k_is); (case sa_NoThing => k_is); (case x2_NoThing => k_is); (case x3_NoThing => k_is)
      (case x4_NoThing => k_is); (case x5_NoThing => k_is); (case x6_NoThing => k_is); (case x7_NoThing => k_is); (case x8_NoThing => k_is); (case x9_NoThing => k_is); (case x10_NoThing => k_is); (case x11_NoThing => k_is)
      (case fn_NoThing => k_is); (case i1_NoThing => k_is); (case i2_NoThing => k_is); (case i3_NoThing => k_is); (case i4_NoThing => k_is); (case i5_NoThing => k_is); (case q_NoBook_DearError => k_is); (case n_NoBook_DearError => rfl)
      (case q_NoBook_NoNumber => k_is); (case n_NoBook_NoNumber => rfl); (case q_NoBook_NoBook => k_is); (case q_NoBook_NoTree => k_is); (case n_NoBook_NoTree => rfl); (case q_NoBook_TooMany => k_is); (case n_NoBook_TooMany => rfl); (case q_NoBook_NoCount => k_is)
      (case n_NoBook_NoCount => rfl); (case q_NoBook_NoUndo => k_is); (case n_NoBook_NoUndo => rfl); (case q_NoBook_NoTurn => k_is); (case n_NoBook_NoTurn => rfl); (case q_NoBook_NoRow => k_is); (case n_NoBook_NoRow => rfl); (case q_NoBook_Unknown => k_is)
      (case n_NoBook_Unknown => rfl); (case q_NoBook_NoTongue => k_is); (case n_NoBook_NoTongue => rfl); (case q_NoBook_NoWants => k_is); (case n_NoBook_NoWants => rfl); (case q_NoBook_NoThing => k_is); (case n_NoBook_NoThing => rfl); (case q_NoBook_BadSign => k_is)
      (case n_NoBook_BadSign => rfl); (case q_NoBook_NoText => k_is); (case n_NoBook_NoText => rfl); (case q_NoBook_ValueError => k_is); (case q_NoThing_DearError => k_is); (case n_NoThing_DearError => rfl); (case q_NoThing_NoNumber => k_is); (case n_NoThing_NoNumber => rfl)
      (case q_NoThing_NoBook => k_is); (case n_NoThing_NoBook => rfl); (case q_NoThing_NoTree => k_is); (case n_NoThing_NoTree => rfl); (case q_NoThing_TooMany => k_is); (case n_NoThing_TooMany => rfl); (case q_NoThing_NoCount => k_is); (case n_NoThing_NoCount => rfl)
      (case q_NoThing_NoUndo => k_is); (case n_NoThing_NoUndo => rfl); (case q_NoThing_NoTurn => k_is); (case n_NoThing_NoTurn => rfl); (case q_NoThing_NoRow => k_is); (case n_NoThing_NoRow => rfl); (case q_NoThing_Unknown => k_is); (case n_NoThing_Unknown => rfl)
      (case q_NoThing_NoTongue => k_is); (case n_NoThing_NoTongue => rfl); (case q_NoThing_NoWants => k_is); (case n_NoThing_NoWants => rfl); (case q_NoThing_NoThing => k_is); (case q_NoThing_BadSign => k_is); (case n_NoThing_BadSign => rfl); (case q_NoThing_NoText => k_is)
      (case n_NoThing_NoText => rfl); (case q_NoThing_ValueError => k_is); (case a1 => k_is); (case l1 => k_is); (case c1 => k_is); (case k1 => k_is); (case a2 => k_is); (case l2 => k_is)
      (case c2 => k_is); (case k2 => k_is); (case a3 => k_is); (case l3 => k_is); (case c3 => k_is); (case k3 => k_is); (case a4 => k_is); (case l4 => k_is)
      (case c4 => k_is); (case k4 => k_is); (case a5 => k_is); (case l5 => k_is); (case c5 => k_is); (case k5 => k_is); (case a6 => k_is); (case l6 => k_is)
      (case c6 => k_is); (case k6 => k_is); (case a7 => k_is); (case l7 => k_is); (case c7 => k_is); (case k7 => k_is); (case a8 => k_is); (case l8 => k_is)
      (case c8 => k_is); (case k8 => k_is); (case a9 => k_is); (case l9 => k_is); (case c9 => k_is); (case k9 => k_is); (case a10 => k_is); (case l10 => k_is)
      (case c10 => k_is); (case k10 => k_is); (case a11 => k_is); (case l11 => k_is); (case c11 => k_is); (case k11 => k_is); (case a12 => k_is); (case l12 => k_is)
      (case c12 => k_is); (case k12 => k_is); (case a13 => k_is); (case a14 => k_is); (case a15 => k_is); (case a16 => k_is); (case a17 => k_is); (case a18 => k_is)
      (case a19 => k_is); (case a20 => k_is); (case a21 => k_is); (case a22 => k_is); (case a23 => k_is); (case a24 => k_is); (case a25 => k_is); (case a26 => k_is)
      (case a27 => k_is); (case a28 => k_is)
#print axioms PySem.Challenge.cw_dearsigns_k20_rows_written_holds

