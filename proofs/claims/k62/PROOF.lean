import PyProof.Rows.All
import Wide.All
import OpenK.AllK
import Wide.FinOn
import HandS.ForMost
import HandS.Wide
import HandS.IsInst
import HandS.Flow
import HandS.Walk
import HandS.Strs
import HandS.Style
import HandS.Exc
import HandS.Codes
import HandS.ForExc
import HandS.ExcIs
import HandS.Defaults
import HandS.ExcInit
import HandS.FStr
import HandS.ExcField
import KE.KIntText
import Flt.Len
import PySem.Challenge.RW_dearsigns_k62_fractions_refused
set_option Elab.async false
set_option linter.all false
set_option maxRecDepth 100000
set_option maxHeartbeats 4000000

namespace Dear
open PySem PySem.Spec PyProof.Rows L2
/-! ### a def of the text, and a def with its promise -/
def Df (K : PySem.W.Frag) (mg : Str → Option Value) (x : Str) (st : Stmt) (ps : List Str) : Prop :=
  ∃ (f : Addr) (fd : FuncData), mg x = some (.ref f) ∧ Fun K x x st f fd ∧ Binds K fd ps []
def OkF (P : Program) (w : World) (K : PySem.W.Frag) (mg : Str → Option Value) (base : Heap) (CX : CXT) (k : Nat) (x : Str) (ps : List Str) (sp : Sp) : Prop :=
  ∃ (f : Addr) (fd : FuncData), mg x = some (.ref f) ∧ PySem.W.keepIn K (.ref f) = true ∧ Binds K fd ps [] ∧ FnOk P w K mg base CX k f fd ps sp
section
variable {P : Program} {w : World} {K : PySem.W.Frag} {mg : Str → Option Value} {base : Heap}
theorem Df.ok {x : Str} {st : Stmt} {N ps : List Str} {k : Nat} {sp : Sp} (D : Df K mg x st ps) (S : FnScope N ps (defScope st)) (len : ∀ vs H Q E, sp vs H Q E → vs.length = ps.length)
    (hbody : ∀ (f : Addr) (cdv : Value) (A : Around) (outer : List Env) (s : Shared) (H : Hp) (vs : List V) (Q : VK) (E : XK), Room k (A.deeper (envOfC x (defScope st) s.heap.objs.size f cdv)) → sp vs H Q E →
      ∃ t, PSs (cxOf CX0 P w K mg base N x (defScope st) f cdv A outer s H E).nox (defBody st) t ∧ t { nx := fun _ H' => Q .non H', rt := Q } (start N vs) H) : OkF P w K mg base CX0 (k + 1) x ps sp := by
  obtain ⟨f, fd, hm, F, hb⟩ := D
  exact ⟨f, fd, hm, F.kp, hb, F.ok S len (hbody f)⟩
end
section
variable {X : Cx}
theorem pe_c {k k' : Nat} {x : Str} {ps : List Str} {sp : Sp} {e : Expr} {es : List Expr} {t : TA} {p pos : Pos} (O : OkF X.prog X.w X.K X.mg X.base CX0 k x ps sp) (hr : Room k' X.A) (ha : PA X (e :: es) t) (hk : k ≤ k' := by decide) (hg : Gl X x := by rfl)
    (hdb : (x == ("__debug__" : Str)) = false := by decide) (he : starEach (e :: es) X.env = (false, eval e X.env) :: starEach es X.env := by rfl) (hpl : (backTo pos (starEach es X.env)).any (·.1) = false := by rfl) :
    PE X (.Call (.Name x p) (e :: es) [] pos) (tCall sp [] E0 t) := by
  obtain ⟨f, fd, hm, hkp, hb, F⟩ := O
  exact pe_call F (hr.mono hk) hg hm hkp hb .nil pass0 ha hdb he hpl
theorem pe_gi {x : Str} {i : Int} {pos : Pos} (h : ∃ t, X.mg x = some (.int i t)) (hg : Gl X x := by rfl) (hd : (x == ("__debug__" : Str)) = false := by decide) : PE X (.Name x pos) (tC (.int i)) := by
  obtain ⟨t, h⟩ := h
  exact pe_glob hg h ⟨_, rfl⟩ hd
theorem pe_gs {x : Str} {z : Str} {pos : Pos} (h : ∃ t, X.mg x = some (.str z t)) (hg : Gl X x := by rfl) (hd : (x == ("__debug__" : Str)) = false := by decide) : PE X (.Name x pos) (tC (.str z)) := by
  obtain ⟨t, h⟩ := h
  exact pe_glob hg h ⟨_, rfl⟩ hd
end
/-! ### the rules with the written part K named -/
section
variable {X : Cx} (K : PySem.W.Frag)
theorem ix_list_k (h : X.K = K := by rfl) : IxR X (rIxL K) := h ▸ ix_list
theorem ix_tup_k (h : X.K = K := by rfl) : IxR X (rIxT K) := h ▸ ix_tup
theorem sl_list_k (h : X.K = K := by rfl) : SlR X (rSlL K) := h ▸ sl_list
theorem sl_tup_k (h : X.K = K := by rfl) : SlR X (rSlT K) := h ▸ sl_tup
theorem op_in_seq_k (h : X.K = K := by rfl) : OpR X (compareOp .In) (rIn K false) := h ▸ op_in_seq
theorem op_notIn_seq_k (h : X.K = K := by rfl) : OpR X (compareOp .NotIn) (rIn K true) := h ▸ op_notIn_seq
def rLen : List V → Hp → VK → Prop := fun xs H Q => ∃ p ys, xs = [.ref p] ∧ (SqL K H p ys ∨ SqT K H p ys) ∧ Q (.int ys.length) H
theorem call_len_seq_k (h : X.K = K := by rfl) : CallR X (.builtin "len") (rLen K) := h ▸ call_len_seq
def rListOf : List V → Hp → VK → Prop := fun xs H Q => ∃ p ys, xs = [.ref p] ∧ (SqL K H p ys ∨ SqT K H p ys) ∧ ∀ l, H l = none → Q (.ref l) (upd H l (.lst ys))
theorem call_list_of_k (h : X.K = K := by rfl) : CallR X (.type "list") (rListOf K) := h ▸ call_list_of
def rTupOf : List V → Hp → VK → Prop := fun xs H Q => ∃ p ys, xs = [.ref p] ∧ ((SqL K H p ys ∧ ∀ l, H l = none → Q (.ref l) (upd H l (.tup ys))) ∨ (SqT K H p ys ∧ Q (.ref p) H))
theorem call_tuple_of_k (h : X.K = K := by rfl) : CallR X (.type "tuple") (rTupOf K) := h ▸ call_tuple_of
theorem cr_sum_k (hc : X.calm = true) (h : X.K = K := by rfl) : CallR X (.builtin "sum") (rSum K) := h ▸ cr_sum hc
theorem cr_max_k (hc : X.calm = true) (h : X.K = K := by rfl) : CallR X (.builtin "max") (rMax K) := h ▸ cr_max hc
theorem cr_min_k (hc : X.calm = true) (h : X.K = K := by rfl) : CallR X (.builtin "min") (rMin K) := h ▸ cr_min hc
theorem cr_any_k (hc : X.calm = true) (h : X.K = K := by rfl) : CallR X (.builtin "any") (rAny K) := h ▸ cr_any hc
theorem cr_all_k (hc : X.calm = true) (h : X.K = K := by rfl) : CallR X (.builtin "all") (rAll K) := h ▸ cr_all hc
theorem cr_sorted_k (h : X.K = K := by rfl) : CallR X (.builtin "sorted") (rSorted K) := h ▸ cr_sorted
theorem mt_index_k (h : X.K = K := by rfl) : MtR X "list.index" (rIndex K) := h ▸ mt_index
theorem op_eqD_k (hu : X.A.units + 64 < cLine) (h : X.K = K := by rfl) : OpR X (compareOp .Eq) (rEqD K) := h ▸ op_eqD hu
theorem op_neD_k (hu : X.A.units + 64 < cLine) (h : X.K = K := by rfl) : OpR X (compareOp .NotEq) (rNeD K) := h ▸ op_neD hu
theorem call_isi_k (h : X.K = K := by rfl) : CallR X (.builtin "isinstance") (rIsi K) := h ▸ call_isi
theorem call_isiT_k (h : X.K = K := by rfl) : CallR X (.builtin "isinstance") (rIsiT K) := h ▸ call_isiT
theorem op_catT_k (h : X.K = K := by rfl) : OpR X (binaryOp .Add) (rCatT K) := h ▸ op_catT
theorem pi_list_k {tg l : Expr} {tl : TE} (hl : PE X l tl) (h : X.K = K := by rfl) : PI X tg l (iList K tl) := h ▸ pi_list hl
theorem pi_tup_k {tg l : Expr} {tl : TE} (hl : PE X l tl) (h : X.K = K := by rfl) : PI X tg l (iTup K tl) := h ▸ pi_tup hl
theorem pe_revL_k {e : Expr} {te : TE} {k : Nat} {p1 p2 p3 pos : Pos} (he : PE X e te) (h : X.K = K := by rfl) : PE X (.Subscript e (.Slice none none (some (.UnaryOp .USub (.Constant (.int 1) k p1) p2)) p3) pos) (tRevL K te) := h ▸ pe_revL he
theorem pg_tup_k {es : List Expr} {k : Nat} {t : TGs} {n : Nat} {pos : Pos} (hc : X.calm = true) (hg : PGs X es t) (h : X.K = K := by rfl)
    (hn : (assignEach es X.env).length = n := by rfl) (hst : (assignEach es X.env).findIdx? (·.1) = none := by rfl) : PG X (.Tuple es k pos) (gTup K n t) := h ▸ pg_tup hc hg hn hst
def rDictP : List V → Hp → VK → Prop := fun xs H Q => ∃ (a : Addr) (ps : List Addr) (kvs : List (Key × V)), xs = [.ref a] ∧ SqL K H a (ps.map V.ref) ∧ Paired (fun p kv => SqT K H p [kV kv.1, kv.2]) ps kvs ∧
    ∀ p, H p = none → Q (.ref p) (upd H p (.dK (mergeK [] kvs)))
theorem call_dictP_k (hc : X.calm = true) (h : X.K = K := by rfl) : CallR X (.type "dict") (rDictP K) := h ▸ call_dictP hc
theorem u1 {n : Nat} (h : n + 64 < cLine) : n + 1 < cLine := by omega
def rJoin : V → List V → Hp → VK → Prop := fun x xs H Q => ∃ a p, ∃ ys : List Str, x = .str a ∧ xs = [.ref p] ∧ (SqL K H p (ys.map V.str) ∨ SqT K H p (ys.map V.str)) ∧ (ys.map (·.length)).sum + ys.length * a.length ≤ 16777216 ∧ Q (.str (Txt.join a ys)) H
theorem pe_join_k {o e : Expr} {to te : TE} {apos pos : Pos} (ho : PE X o to) (he : PE X e te) (h : X.K = K := by rfl) (hs : starEach [e] X.env = [(false, eval e X.env)] := by rfl) (hbase : attributeBase o "join" X.env (eval o X.env) = eval o X.env := by rfl) (hline : (apos.endLine == pos.line) = true := by rfl) :
    PE X (.Call (.Attribute o "join" apos) [e] [] pos) (tM1 (rJoin K) to te) := h ▸ pe_join ho he hs hbase hline
end
/-! ### heaps -/
/-- all that was tracked, but for what stands at l, is as it was -/
def But (l : Addr) (H H' : Hp) : Prop := ∀ b o, H b = some o → b ≠ l → H' b = some o
theorem But.refl (l : Addr) (H : Hp) : But l H H := fun _ _ h _ => h
theorem But.trans {l : Addr} {H H1 H2 : Hp} (a : But l H H1) (b : But l H1 H2) : But l H H2 := fun c o h n => b c o (a c o h n) n
theorem But.of {l : Addr} {H H1 : Hp} (a : Same H H1) : But l H H1 := fun c o h _ => a c o h
theorem But.upd {l : Addr} {H : Hp} {o : HO} : But l H (upd H l o) := fun b _ h n => by rw [upd_ne n]; exact h
theorem Same.upd {H : Hp} {l : Addr} {o : HO} (h : H l = none) : Same H (upd H l o) := fun b u e => by
  rw [upd_ne (ne_of_none e h)]
  exact e
theorem But.new {l : Addr} {H H1 : Hp} {p : Addr} {o : HO} (a : But l H H1) (h : H1 p = none) : But l H (L2.upd H1 p o) := a.trans (.of (Same.upd h))
theorem Same.new {H H1 : Hp} {p : Addr} {o : HO} (a : Same H H1) (h : H1 p = none) : Same H (L2.upd H1 p o) := a.trans (Same.upd h)
/-- the ends of an if -/
theorem itb {b : Bool} {A B : Prop} (h1 : b = true → A) (h2 : b = false → B) : if b = true then A else B := by
  cases b with
  | true => exact iteT (h1 rfl)
  | false => exact iteF (h2 rfl)
theorem itd {c : Prop} [Decidable c] {A B : Prop} (h1 : c → A) (h2 : ¬ c → B) : if decide c = true then A else B := itb (fun h => h1 (of_decide_eq_true h)) fun h => h2 (of_decide_eq_false h)
theorem itnd {c : Prop} [Decidable c] {A B : Prop} (h1 : ¬ c → A) (h2 : c → B) : if (!decide c) = true then A else B := itb (fun h => h1 (by simpa using h)) fun h => h2 (by simpa using h)
/-! ### readings, step by step -/
section
variable {σ : L2.St} {H : Hp} {D : Ends} {t1 t2 : TS} {te : TE} {i : Nat} {c : TT}
theorem s_seq (h : t1 { D with nx := t2 D } σ H) : tSeq t1 t2 D σ H := h
theorem s_set (h : te σ H fun v H' => D.nx (σ.set i (some v)) H') : tAsg te (gName i) D σ H := h
theorem s_ret (h : te σ H D.rt) : tRet te D σ H := h
theorem s_if (h : c σ H fun b H' => if b = true then t1 D σ H' else t2 D σ H') : tIfS c t1 t2 D σ H := h
theorem s_op {r : R2} {ta tb : TE} {Q : VK} (h : ta σ H fun x H1 => tb σ H1 fun y H2 => r x y H2 Q) : tOp r ta tb σ H Q := h
theorem s_nx (h : D.nx σ H) : tNext D σ H := h
end
end Dear

namespace Dear
open PySem PySem.Spec PyProof.Rows L2
/-! ### an exception that is caught, kept in a name, and asked behind the suite -/
/-- a kept exception at a: its class, its own dict -/
def ExK (cls : Value) (d : Option Addr) (a : Addr) : HO := .ext fun h => ∃ (oe : Obj) (vs : Array Value), h.get? a = some oe ∧ Zc cls d oe ∧ oe.data = .fields vs
theorem exK_ok {P : Program} {w : World} {H : Hp} {h : Heap} {a : Addr} {cls : Value} {d : Option Addr} {oe : Obj} {vs : Array Value} (e : h.get? a = some oe) (z : Zc cls d oe) (dt : oe.data = .fields vs) : ObjOk P w H h a (ExK cls d a) :=
  ⟨⟨oe, vs, e, z, dt⟩, ⟨oe, e⟩, fun _ _ ⟨o, v, q, r⟩ k => ⟨o, v, k o q, r⟩⟩
section
variable {X : Cx} {pins : List (Addr × Obj)} {σ : L2.St} {H : Hp} {s : Shared}
/-- an object that stands there untracked, new since the entry, becomes tracked -/
theorem track (I : Inv X pins σ H s) {a : Addr} {o : HO} {oe : Obj} (he : s.heap.get? a = some oe) (na : H a = none) (n0 : X.s_0.heap.get? a = none) (nL : a ≠ X.env.locals) (nC : ∀ v, oe.data ≠ .cell v)
    (nP : ∀ p ∈ X.pn ++ pins, p.1 ≠ a) (new : ObjOk X.prog X.w (upd H a o) s.heap a o) : Inv X pins σ (upd H a o) s where
  ok := I.ok
  os := I.os
  bare := I.bare
  base := {
    keep := I.base.keep
    slot := I.base.slot
    free := fun b u q n hx => by
      rw [upd_ne fun z => by rw [z, n0] at q; cases q]
      exact I.base.free b u q n hx
    there := I.base.there
    tups := fun b xs q => by
      have z := I.base.tups b xs q
      rw [upd_ne (ne_of_none z na)]
      exact z
    frzs := fun b u v q => by
      have z := I.base.frzs b u v q
      rw [upd_ne (ne_of_none z na)]
      exact z
    tbls := fun b ps q => by
      obtain ⟨m, z⟩ := I.base.tbls b ps q
      exact ⟨m, by rw [upd_ne (ne_of_none z na)]; exact z⟩ }
  loc := I.loc
  cell := I.cell
  free := by rw [upd_ne (Ne.symm nL)]; exact I.free
  freeC := fun x c e => by
    have ne : c ≠ a := fun z => by
      obtain ⟨v, ob, q, dq⟩ := I.cell x c e
      rw [z, he] at q
      cases q
      exact nC v dq
    rw [upd_ne ne]
    exact I.freeC x c e
  pin := fun p hp => by
    obtain ⟨p1, p2, p3⟩ := I.pin p hp
    exact ⟨p1, by rw [upd_ne (nP p hp)]; exact p2, p3⟩
  hok := fun b u e => by
    by_cases hb : b = a
    · subst hb
      rw [upd_same] at e
      cases e
      exact new
    · rw [upd_ne hb] at e
      exact (I.hok b u e).stay (fun _ _ _ q => q) (fun c q => by rw [upd_ne (ne_of_none q na)]; exact q) fun c xs q => by rw [upd_ne (ne_of_none q na)]; exact q
  len := I.len
end
/-- what «except x as n: y = n» wishes of an exception of the body: n's slot is i, y's is j; behind it the exception stands tracked -/
def wKept (K : PySem.W.Frag) (c : Value) (i j : Nat) (Wout : WX) (D : Ends) : WX := fun cls d σ H =>
  ∃ b, PySem.W.exmOne K cls c = some b ∧ (b = true → ∀ a, H a = none → D.nx (((σ.set i (some (.ref a))).set j (some (.ref a))).set i none) (upd H a (ExK cls d a))) ∧ (b = false → Wout cls d σ H)
section
variable {X : Cx} {x n y : Str} {c : Value} {i j : Nat} {body : List Stmt} {np pos pos2 p3 p4 p5 : Pos} {tb : WX → TS} {Wout : WX}
theorem ps_try_kept (hs : X.stack = X.env :: X.outer) (hf : X.env.frame = some X.env.locals) (hex : X.ex = []) (hN : X.N.Nodup) (hi : X.N[i]? = some n) (hj : X.N[j]? = some y) (hij : i ≠ j) (hln : X.env.kindOf n = some .local) (hly : X.env.kindOf y = some .local) (hc : Names X x c) (tk : Takes X Wout)
    (hb : ∀ (W : WX) (pn : List (Addr × Obj)) (xe : Value → Shared → Prop), Takes (X.tr pn xe) W → PassesOwn (model X.prog X.w) X.A X.env xe → PSs (X.tr pn xe) body (tb W))
    (hdn : (n == ("__debug__" : Str)) = false := by decide) (hcd : (n == ("__classdict__" : Str)) = false := by decide) :
    PS X (.Try body [.ExceptHandler (some (.Name x np)) (some n) [.Assign [.Name y p3] (.Name n p4) p5] pos2] [] [] pos) (fun D σ H => tb (wKept X.K c i j Wout D) D σ H) := by
  refine ⟨fun pins s σ H D I h => ?_⟩
  have ok := I.ok
  have frames : X.A.frames = some (X.env :: X.outer) := by rw [ok.frames, hs]
  refine wpAny_Try_except (wpAny_mono ((hb (wKept X.K c i j Wout D) (X.pn ++ pins) _ (fun u s1 air => ?_) PassesOwn.looking).run [] s σ H D (I.toTry _) h) (fun f s1 done => ?_) fun _ _ z => z)
  · obtain ⟨a, B, sI, pins', σ1, H1, cls, d, rfl, J1, nb, up, sky, na, os, ag, b, hm, yes, no⟩ := air
    have J : Inv X pins σ1 H1 sI := J1.ofTry ok
    rw [show X.stack = X.env :: X.outer from hs] at sky
    refine Sky.land Zc.steady frames hf sky fun h3 fl3 up3 => ?_
    have J3 : Inv X pins σ1 H1 { s1 with heap := h3 } := J.landed nb fl3.1 (up.trans up3) os ag
    obtain ⟨oe3, vs3, he3, hz3, hd3⟩ := fl3.there
    have nfr : a ∉ frs (X.env :: X.outer) := fun hm => by
      obtain ⟨_, o', e', hnf⟩ := fl3.2.2.1.mem hm
      rw [he3] at e'
      cases e'
      exact hnf _ hd3
    have nL : a ≠ X.env.locals := fun z => nfr (List.mem_filterMap.mpr ⟨X.env, List.mem_cons_self, by rw [hf, z]⟩)
    have nF : a ∉ X.fs := fun hm => by
      obtain ⟨e, he, q⟩ := List.mem_filterMap.mp hm
      exact nfr (List.mem_filterMap.mpr ⟨e, List.mem_cons_of_mem _ he, q⟩)
    -- it is new: neither there at the entry nor pinned
    have gone : ∀ o, sI.heap.get? a ≠ some o := fun o q => by
      have z := nb a o q (by rw [hs]; exact nfr)
      rw [fl3.2.1] at z
      cases z
    have n0 : X.s_0.heap.get? a = none := by
      cases q : X.s_0.heap.get? a with
      | none => rfl
      | some o =>
        obtain ⟨o', q'⟩ := J.base.there a o q (by rw [hex]; simp)
        exact absurd q' (gone o')
    have nP : ∀ p ∈ X.pn ++ pins, p.1 ≠ a := fun p hp z => gone p.2 (z ▸ (J.pin p hp).1)
    have S3 := J3.suite he3 hd3 na nL nF
    refine wpAny_handleBy_cons (codeAny_handlers_test ?_) (by intro q; cases q)
    have LT : PySem.W.Looks (model X.prog X.w) h3 (typeOf (.ref a)) cls := fun _ _ _ _ k q => wpAny_typeOf_ref (k _ _ he3) (by rw [hz3.1]; exact q)
    have LM := PySem.W.exm_one (M := model X.prog X.w) J3.kIn LT hm
    have named : ∀ {Q : Value → Shared → Prop} {E : Value → Shared → Prop}, Q c { s1 with heap := h3 } → wpAny (model X.prog X.w) (X.A.mark (some (.ref a))) (eval (.Name x np) X.env) Q E { s1 with heap := h3 } := fun {Q E} q => by
      obtain ⟨hg, hdbg, hm | ⟨hm, hv, hnn⟩⟩ := hc
      · exact ld_glob (X := X.suite a ((a, oe3) :: (X.pn ++ pins))) S3 hg hm q hdbg
      · exact ld_blt (X := X.suite a ((a, oe3) :: (X.pn ++ pins))) S3 hg hm hv q hnn hdbg
    refine named (LM.here ?_)
    cases b with
    | true =>
      refine codeAny_handlers_suite_as (HandSPX.lands_againZ fl3 fun h4 fl4 up4 => ?_)
      have J4 : Inv X pins σ1 H1 { s1 with heap := h4 } := J.landed nb fl4.1 ((up.trans up3).trans up4) os ag
      obtain ⟨oe4, vs4, he4, hz4, hd4⟩ := fl4.there
      refine store_ok (X := X.suite a ((a, oe4) :: (X.pn ++ pins))) (v := .ref a) (J4.suite he4 hd4 na nL nF) hN hi (.inl hln) rfl (fun s5 S5 => ?_) (.inr hln)
      have suite : PSs (X.suite a ((a, oe4) :: (X.pn ++ pins))) [.Assign [.Name y p3] (.Name n p4) p5] (tAsg (tVar i) (gName j)) := pss_one (ps_set hN hj (.inl hly) (pe_var hi (.inl hln) hdn hcd) (hf := .inr hly))
      have len1 : i < σ1.length := by
        rw [J.len]
        exact (List.getElem?_eq_some_iff.mp hi).1
      refine wpAny_mono (suite.run [] s5 _ H1 { nx := fun σ' H' => σ' = (σ1.set i (some (.ref a))).set j (some (.ref a)) ∧ H' = H1, rt := fun _ _ => False } S5 ⟨.ref a, by rw [List.getElem?_set_self len1], rfl, rfl⟩) (fun f s6 done => ?_) fun _ _ z => z.elim
      cases f with
      | next =>
        obtain ⟨σ6, H6, S6, rfl, rfl⟩ := done
        have he6 := (S6.pin (a, oe4) (List.mem_append_left _ List.mem_cons_self)).1
        refine gone_ok (track (S6.unsuite ok) (o := ExK cls d a) he6 na n0 nL (fun v q => by rw [hd4] at q; cases q) nP (exK_ok he6 hz4 hd4)) hN hi hln fun s7 J7 => ⟨_, _, J7, yes rfl a na⟩
      | brk =>
        obtain ⟨_, _, _, z⟩ := done
        exact z.elim
      | cont =>
        obtain ⟨_, _, _, z⟩ := done
        exact z.elim
      | ret u =>
        obtain ⟨_, _, _, _, _, z⟩ := done
        exact z.elim
    | false =>
      show wpAny _ X.A (handleBy (.ref a) X.env []) _ _ _
      refine wpAny_handleBy_nil ?_
      obtain ⟨_, _, _, oe, vs, T, _, _, he, _, hd, h1, _⟩ := id fl3
      unfold PySem.passOn
      refine wpAny_bind (wpAny_field he hd h1 ?_)
      rw [if_neg (show ¬ ((Value.ref T == Value.none) = true) from by simp)]
      have fin : wpAny (model X.prog X.w) X.A (setFlight (.ref a) X.env.frame) (fun _ s4 => wpAny (model X.prog X.w) X.A (throw (.ref a) : Sem Flow) (SP X pins D) X.xe s4) X.xe { s1 with heap := h3 } := by
        rw [hf]
        exact HandSPX.setFlight_upZ fl3 fun h4 hh4 up4 => wpAny_throw (tk _ _ ⟨a, B, sI, pins, σ1, H1, cls, d, rfl, J, nb, (up.trans up3).trans up4, .inr (.inr (by rw [hs]; exact hh4)), na, os, ag, no rfl⟩)
      first
        | exact wpAny_bind (wpAny_pure (wpAny_bind fin))
        | exact wpAny_bind fin
  · cases f with
    | next =>
      obtain ⟨σ', H', J', q⟩ := done
      exact wpAny_execs_nil ⟨σ', H', J'.ofTry ok, q⟩
    | brk =>
      obtain ⟨σ', H', J', q⟩ := done
      exact ⟨σ', H', J'.ofTry ok, q⟩
    | cont =>
      obtain ⟨σ', H', J', q⟩ := done
      exact ⟨σ', H', J'.ofTry ok, q⟩
    | ret u =>
      obtain ⟨v, σ', H', J', r, q⟩ := done
      exact ⟨v, σ', H', J'.ofTry ok, r, q⟩
end
/-! ### isinstance of a kept exception -/
/-- the object as the library's rules want it -/
theorem instAt_kept {h : Heap} {a D : Addr} {oe : Obj} {vs : Array Value} (e : h.get? a = some oe) (z : Zc (.ref D) none oe) (d : oe.data = .fields vs) : PySem.W.InstAt h a oe D none := by
  obtain ⟨oc, od, oda, osl⟩ := oe
  obtain ⟨h1, h2⟩ := z
  dsimp only at h1 h2 d
  subst h1 h2 d
  exact ⟨e, rfl, rfl, trivial⟩
def rIsX (K : PySem.W.Frag) : List V → Hp → VK → Prop := fun xs H Q => ∃ (a D : Addr) (c : V) (u : Value) (b : Bool), xs = [.ref a, c] ∧ H a = some (ExK (.ref D) none a) ∧ ExcC K D ∧ ClsV c u ∧ PySem.W.kitOne K (.ref D) u = some b ∧ Q (.bl b) H
def rIsXT (K : PySem.W.Frag) : List V → Hp → VK → Prop := fun xs H Q => ∃ (a D tp : Addr) (cs : List V) (us : List Value) (b : Bool), xs = [.ref a, .ref tp] ∧ H a = some (ExK (.ref D) none a) ∧ ExcC K D ∧ H tp = some (.tup cs) ∧ Paired ClsV cs us ∧ PySem.W.kitAny K (.ref D) us = some b ∧ Q (.bl b) H
section
variable {X : Cx} (K : PySem.W.Frag)
theorem call_isX_k (hk : X.K = K := by rfl) : CallR X (.builtin "isinstance") (rIsX K) := by
  subst hk
  intro pins s σ H xs us Q I r h
  obtain ⟨a, D, c, u, b, rfl, ha, C, k, e, q⟩ := h
  obtain ⟨u1, u2, rfl, r1, r2⟩ := vals2 r
  have e2 := k.eq r2
  subst e2
  cases r1
  obtain ⟨⟨oe, vs, he, hz, hd⟩, _⟩ := I.hok a _ ha
  exact PySem.W.kia_one (PySem.W.handS_kitx_exc C.hg C.hk C.hs C.hd C.ha C.hn C.ht C.hm) I.kIn (instAt_kept he hz hd) e (fun z => nomatch z) fun tk => ⟨.bl b, H, I.tok tk, rfl, q⟩
theorem call_isXT_k (hk : X.K = K := by rfl) : CallR X (.builtin "isinstance") (rIsXT K) := by
  subst hk
  intro pins s σ H xs us Q I r h
  obtain ⟨a, D, tp, cs, ws, b, rfl, ha, C, hT, k, e, q⟩ := h
  obtain ⟨u1, u2, rfl, r1, r2⟩ := vals2 r
  cases r1
  cases (show u2 = Value.ref tp from r2)
  obtain ⟨⟨oe, vs, he, hz, hd⟩, _⟩ := I.hok a _ ha
  obtain ⟨_, its, rv, o, h1, h2, n, h3⟩ := (show ObjOk X.prog X.w H s.heap tp (.tup cs) from I.hok tp _ hT)
  have e3 := ClsV.all k rv
  subst e3
  obtain ⟨oc, od, dt, sl⟩ := o
  simp only at h2 h3
  subst h2 h3
  exact PySem.W.kia_tup (PySem.W.handS_kitx_exc C.hg C.hk C.hs C.hd C.ha C.hn C.ht C.hm) I.kIn (instAt_kept he hz hd) h1 e (fun z => nomatch z) fun tk => ⟨.bl b, H, I.tok tk, rfl, q⟩
end
/-! ### facts of own exception classes, calls of defs that raise, defs with defaults -/
/-- an own exception class over ValueError, without an own __init__ -/
structure ExOwn (K : PySem.W.Frag) (mg : Str → Option Value) (x : Str) (C : Addr) : Prop where
  g : mg x = some (.ref C)
  x : PySem.W.excIn K C [.type "ValueError", .type "Exception", .type "BaseException", .type "object"] "ValueError.__new__" = true
  k : PySem.W.keepIn K (.ref C) = true
  b : PySem.W.subIn K (.ref C) (.type "BaseException") = some true
  t : PySem.W.typeIn K (.ref C) = some (.type "type")
  c : ExcC K C
theorem kit_ref {K : PySem.W.Frag} {A C : Addr} {b : Bool} (n : (Value.ref A == Value.ref C) = false) (i : PySem.W.isClsIn K C = true) (t : PySem.W.typeIn K (.ref C) = some (.type "type")) (q : PySem.W.subIn K (.ref A) (.ref C) = some b) : PySem.W.kitOne K (.ref A) (.ref C) = some b := by
  unfold PySem.W.kitOne
  rw [if_neg (by rw [n]; exact Bool.false_ne_true)]
  have i' : (PySem.W.clsIn K C).isSome = true := i
  show (if ((PySem.W.clsIn K C).isSome && PySem.W.typeIn K (.ref C) == some (.type "type")) = true then PySem.W.subIn K (.ref A) (.ref C) else none) = some b
  rw [i', t, if_pos (by simp)]
  exact q
theorem kit_self {K : PySem.W.Frag} {C : Addr} : PySem.W.kitOne K (.ref C) (.ref C) = some true := by
  unfold PySem.W.kitOne
  rw [if_pos (by simp)]
theorem kit_val {K : PySem.W.Frag} {A : Addr} (q : PySem.W.subIn K (.ref A) (.type "ValueError") = some true) : PySem.W.kitOne K (.ref A) (.type "ValueError") = some true := by
  unfold PySem.W.kitOne
  rw [if_neg (by simp)]
  have m : PySem.W.kitMeta "ValueError" = true := by decide +kernel
  show (if PySem.W.kitMeta "ValueError" = true then PySem.W.subIn K (.ref A) (.type "ValueError") else none) = some true
  rw [if_pos m]
  exact q
theorem exm_ref2 {K : PySem.W.Frag} {A C : Addr} {b : Bool} (h1 : PySem.W.subIn K (.ref C) (.type "BaseException") = some true) (i : PySem.W.isClsIn K C = true) (t : PySem.W.typeIn K (.ref C) = some (.type "type")) (q : PySem.W.subIn K (.ref A) (.ref C) = some b) : PySem.W.exmOne K (.ref A) (.ref C) = some b := by
  have i' : (PySem.W.clsIn K C).isSome = true := i
  show (if (PySem.W.subIn K (.ref C) (.type "BaseException") == some true) = true then (if ((PySem.W.clsIn K C).isSome && PySem.W.typeIn K (.ref C) == some (.type "type")) = true then PySem.W.subIn K (.ref A) (.ref C) else none) else none) = some b
  rw [h1, i', t, if_pos (by simp), if_pos (by simp)]
  exact q
/-- none of some classes -/
theorem kit_none {K : PySem.W.Frag} {t : Value} : ∀ {us : List Value}, (∀ u ∈ us, PySem.W.kitOne K t u = some false) → PySem.W.kitAny K t us = some false
  | [], _ => rfl
  | u :: us, h => kitAny_cons (h u List.mem_cons_self) (fun _ => kit_none fun x hx => h x (List.mem_cons_of_mem _ hx)) (fun z => by cases z)
theorem cls_all : ∀ {cs : List Addr}, Paired ClsV (cs.map V.ref) (cs.map Value.ref)
  | [] => .nil
  | c :: _ => .cons (.own c) cls_all
/-- a def with defaults dvs, and with its promise -/
def DfD (K : PySem.W.Frag) (mg : Str → Option Value) (x : Str) (st : Stmt) (ps : List Str) (dvs : List V) : Prop :=
  ∃ (f : Addr) (fd : FuncData), mg x = some (.ref f) ∧ FunD K x x (defArgs st) (defBody st) (defScope st) dvs [] f fd ∧ (∃ ds, Vals dvs ds ∧ Binds K fd ps ds) ∧ Binds K fd ps []
def OkD (P : Program) (w : World) (K : PySem.W.Frag) (mg : Str → Option Value) (base : Heap) (CX : CXT) (k : Nat) (x : Str) (ps : List Str) (dvs : List V) (sp : Sp) : Prop :=
  ∃ (f : Addr) (fd : FuncData), mg x = some (.ref f) ∧ PySem.W.keepIn K (.ref f) = true ∧ (∃ ds, Vals dvs ds ∧ Binds K fd ps ds) ∧ Binds K fd ps [] ∧ FnOk P w K mg base CX k f fd ps sp
theorem dfD_mk {K : PySem.W.Frag} {mg : Str → Option Value} {x : Str} {st : Stmt} {ps : List Str} {dvs : List V} {f T : Addr} {oc oC kV dc pm cd ct : Value} {od oD an : Option Addr} {sl sD : Array (Option Value)} {its : List Value} {n : Nat}
    (hm : mg x = some (.ref f)) (l : K.lookup f = some ⟨oc, od, .func (PySem.W.fnOf x x (defArgs st) (defBody st) (defScope st) (.ref T) kV dc pm an cd ct), sl⟩) (c : PySem.W.codeIn K cd x = true) (k : PySem.W.keepIn K (.ref f) = true)
    (d : K.lookup T = some ⟨oC, oD, .seq its.toArray n, sD⟩) (r : Vals dvs its) (hd : dvs ≠ []) {m : Nat} (hn : m + dvs.length = ps.length) (hz : dvs.drop dvs.length = [])
    (h1 : ∀ (T : Addr) (kV doc pm : Value) (an : Option Addr) (cdv ct : Value) (us its : List Value), us.length = m → its.length = dvs.length →
      ∃ k, bindArgs (PySem.W.fnOf x x (defArgs st) (defBody st) (defScope st) (.ref T) kV doc pm an cdv ct) ⟨us, []⟩ = seqItems? (.ref T) >>= k ∧ k (some its.toArray) = pure (ps.zip (us ++ its.drop 0)))
    (h2 : ∀ (T : Addr) (kV doc pm : Value) (an : Option Addr) (cdv ct : Value) (us its : List Value), us.length = ps.length → its.length = dvs.length →
      ∃ k, bindArgs (PySem.W.fnOf x x (defArgs st) (defBody st) (defScope st) (.ref T) kV doc pm an cdv ct) ⟨us, []⟩ = seqItems? (.ref T) >>= k ∧ k (some its.toArray) = pure (ps.zip (us ++ its.drop dvs.length))) : DfD K mg x st ps dvs := by
  have F : FunD K x x (defArgs st) (defBody st) (defScope st) dvs [] f (PySem.W.fnOf x x (defArgs st) (defBody st) (defScope st) (.ref T) kV dc pm an cd ct) :=
    ⟨⟨oc, od, .ref T, kV, dc, pm, an, cd, ct, sl, rfl, l, c, .inr ⟨hd, T, _, its, n, rfl, d, rfl, r⟩, .inl rfl⟩, k⟩
  refine ⟨f, _, hm, F, F.binds1 m 0 hd (by omega) h1, ?_⟩
  obtain ⟨ds, v, b⟩ := F.binds1 ps.length dvs.length hd (by omega) h2
  rw [hz] at v
  cases v
  exact b
section
variable {P : Program} {w : World} {K : PySem.W.Frag} {mg : Str → Option Value} {base : Heap}
theorem DfD.ok {CX : CXT} {x : Str} {st : Stmt} {N ps : List Str} {dvs : List V} {k : Nat} {sp : Sp} (D : DfD K mg x st ps dvs) (S : FnScope N ps (defScope st)) (len : ∀ vs H Q E, sp vs H Q E → vs.length = ps.length)
    (hbody : ∀ (f : Addr) (cdv : Value) (A : Around) (outer : List Env) (s : Shared) (H : Hp) (vs : List V) (Q : VK) (E : XK), Room k (A.deeper (envOfC x (defScope st) s.heap.objs.size f cdv)) → sp vs H Q E →
      ∃ t, PSs (cxOf CX P w K mg base N x (defScope st) f cdv A outer s H E) (defBody st) t ∧ t { nx := fun _ H' => Q .non H', rt := Q } (start N vs) H) : OkD P w K mg base CX (k + 1) x ps dvs sp := by
  obtain ⟨f, fd, hm, F, hb, hb0⟩ := D
  exact ⟨f, fd, hm, F.kp, hb, hb0, F.ok S len (hbody f)⟩
/-- a def that may raise -/
theorem Df.okX {x : Str} {st : Stmt} {N ps : List Str} {k : Nat} {sp : Sp} (D : Df K mg x st ps) (S : FnScope N ps (defScope st)) (len : ∀ vs H Q E, sp vs H Q E → vs.length = ps.length)
    (hbody : ∀ (f : Addr) (cdv : Value) (A : Around) (outer : List Env) (s : Shared) (H : Hp) (vs : List V) (Q : VK) (E : XK), Room k (A.deeper (envOfC x (defScope st) s.heap.objs.size f cdv)) → sp vs H Q E →
      ∃ t, PSs (cxOf (L2.CX P w) P w K mg base N x (defScope st) f cdv A outer s H E) (defBody st) t ∧ t { nx := fun _ H' => Q .non H', rt := Q } (start N vs) H) : OkF P w K mg base (L2.CX P w) (k + 1) x ps sp := by
  obtain ⟨f, fd, hm, F, hb⟩ := D
  exact ⟨f, fd, hm, F.kp, hb, F.okX S len (hbody f)⟩
end
section
variable {X : Cx} {k k' : Nat} {x : Str} {ps : List Str} {sp : Sp} {e : Expr} {es : List Expr} {t : TA} {p pos : Pos} {W : WX} {dvs : List V}
/-- f(e, ..) where f may raise -/
theorem pe_cx (O : OkF X.prog X.w X.K X.mg X.base (L2.CX X.prog X.w) k x ps sp) (hr : Room k' X.A) (tk : Takes X W) (ha : PA X (e :: es) t) (hk : k ≤ k' := by decide) (hg : Gl X x := by rfl)
    (hdb : (x == ("__debug__" : Str)) = false := by decide) (he : starEach (e :: es) X.env = (false, eval e X.env) :: starEach es X.env := by rfl) (hpl : (backTo pos (starEach es X.env)).any (·.1) = false := by rfl) :
    PE X (.Call (.Name x p) (e :: es) [] pos) (tCallS sp (WE W) t) := by
  obtain ⟨f, fd, hm, hkp, hb, F⟩ := O
  exact pe_callS F (hr.mono hk) hg hm hkp hb (fun σ => passAt tk σ) ha hdb he hpl
/-- the same, f with defaults, all arguments written -/
theorem pe_cxn (O : OkD X.prog X.w X.K X.mg X.base (L2.CX X.prog X.w) k x ps dvs sp) (hr : Room k' X.A) (tk : Takes X W) (ha : PA X (e :: es) t) (hk : k ≤ k' := by decide) (hg : Gl X x := by rfl)
    (hdb : (x == ("__debug__" : Str)) = false := by decide) (he : starEach (e :: es) X.env = (false, eval e X.env) :: starEach es X.env := by rfl) (hpl : (backTo pos (starEach es X.env)).any (·.1) = false := by rfl) :
    PE X (.Call (.Name x p) (e :: es) [] pos) (tCallS sp (WE W) t) := by
  obtain ⟨f, fd, hm, hkp, _, hb, F⟩ := O
  exact pe_callS F (hr.mono hk) hg hm hkp hb (fun σ => passAt tk σ) ha hdb he hpl
/-- the same, the defaults fill up -/
def tCallD (sp : Sp) (dvs : List V) (E : L2.St → XK) (t : TA) : TE := fun σ H Q => t σ H fun vs H1 => sp (vs ++ dvs) H1 Q (E σ)
theorem pe_cxd (O : OkD X.prog X.w X.K X.mg X.base (L2.CX X.prog X.w) k x ps dvs sp) (hr : Room k' X.A) (tk : Takes X W) (ha : PA X (e :: es) t) (hk : k ≤ k' := by decide) (hg : Gl X x := by rfl)
    (hdb : (x == ("__debug__" : Str)) = false := by decide) (he : starEach (e :: es) X.env = (false, eval e X.env) :: starEach es X.env := by rfl) (hpl : (backTo pos (starEach es X.env)).any (·.1) = false := by rfl) :
    PE X (.Call (.Name x p) (e :: es) [] pos) (tCallD sp dvs (WE W) t) := by
  obtain ⟨f, fd, hm, hkp, ⟨ds, hv, hb⟩, _, F⟩ := O
  refine ⟨fun pins s σ H Q I h => ?_⟩
  refine wpAny_Call_Name_kw (ld_glob I hg hm ?_ hdb)
  refine PySem.W.callWith_K (h₀ := X.base) I.ok.mod.kin hkp (thn (ha.run pos pins s σ H _ I h) fun us s1 ⟨vs, H1, I1, r, q⟩ => ⟨I1.kIn, ?_⟩) he hpl
  have hl : (vs ++ dvs).length = ps.length := F.len _ _ _ _ q
  have b := hb s1 us I1.kIn (by rw [← hl, List.length_append, List.length_append, r.length, hv.length])
  refine wpAny_call (codeAny_mono (F.run X.A X.stack s1 H1 ⟨us, []⟩ (us ++ ds) (vs ++ dvs) Q (WE W σ) (hr.mono hk) I1.env0 b (r.append hv) q) fun rr s2 hq => ?_)
  cases rr with
  | error e => exact passAt tk σ pins H1 s1 e s2 I1 hq
  | ok fl =>
    cases fl with
    | ret u => exact I1.after hq
    | next => exact False.elim hq
    | brk => exact False.elim hq
    | cont => exact False.elim hq
end
end Dear

namespace Dear
open PySem PySem.Spec PyProof.Rows L2
/-! ### own exceptions with an own __init__: X(DearError), DearError.__init__(self, f'..{f}'), self.f = f -/
/-- what may stand in such a field -/
def FmtV (v : V) : Prop := v = .non ∨ (∃ y : Str, v = .str y ∧ y.length ≤ 900) ∨ ∃ i : Int, v = .int i ∧ i.natAbs < 2 ^ 64
theorem int_len {i : Int} (h : i.natAbs < 2 ^ 64) : (Str.ofString (toString i)).length ≤ 900 ∧ i.natAbs.log2 < 1920 := by
  constructor
  · have e := int_text_length_le10 (k := 30) (a := i) (by decide) (Nat.lt_of_lt_of_le h (by decide))
    rw [PySem.ofString_length]
    omega
  · have e : i.natAbs.log2 < 64 := PySem.Flt.log2_lt_of (by decide) h
    omega
section
variable {X : Cx}
/-- {x} of None, a text, a number: some short text -/
def tFmtN (te : TE) : TE := fun σ H Q => te σ H fun x H1 => FmtV x ∧ ∀ z : Str, z.length ≤ 900 → Q (.str z) H1
theorem pe_fmtN {e : Expr} {te : TE} {pos : Pos} (he : PE X e te) : PE X (.FormattedValue e (-1) none pos) (tFmtN te) := by
  refine ⟨fun pins s σ H Q I h => wpAny_FormattedValue_plain (thn (he.run pins s σ H _ I h) fun v s1 hv => ?_)⟩
  obtain ⟨x, H1, J, r, hx, q⟩ := hv
  rcases hx with e | ⟨y, e, hy⟩ | ⟨i, e, hi⟩
  · subst e
    cases (show v = Value.none from r)
    exact wpAny_formatField_none ⟨.str "None", H1, (J.tok _), ⟨_, rfl⟩, q _ (by decide +kernel)⟩
  · subst e
    obtain ⟨t, e⟩ := r
    subst e
    have q' := q y hy
    exact wpAny_formatField_str ⟨.str y, H1, J, ⟨t, rfl⟩, q'⟩ ⟨.str y, H1, J.tok _, ⟨_, rfl⟩, q'⟩ (Nat.le_trans hy (by decide))
  · subst e
    obtain ⟨t, e⟩ := r
    subst e
    exact wpAny_formatField_int (int_len hi).2 ⟨.str (Str.ofString (toString i)), H1, J.tok _, ⟨_, rfl⟩, q _ (int_len hi).1⟩
end
/-- C.__init__ of an own exception class without an own one is ValueError's -/
structure DrI (K : PySem.W.Frag) (mg : Str → Option Value) (x : Str) (C : Addr) : Prop where
  g : mg x = some (.ref C)
  s : PySem.W.specialIn K (.ref C) "__getattribute__" = some (some (.builtin "type.__getattribute__"))
  r : PySem.W.readsIn K C (.type "type") = true
  v : PySem.W.findCls K (.ref C) (.type "type") "__init__" = some (.val (.builtin "ValueError.__init__"))
section
variable {X : Cx}
theorem pe_drinit {e : Expr} {es : List Expr} {ta : TA} {x : Str} {C0 : Addr} {pl : Sem Bool} {p1 p2 pos : Pos} (T : DrI X.K X.mg x C0) (ha : PA X (e :: es) ta) (hg : Gl X x := by rfl) (hdb : (x == ("__debug__" : Str)) = false := by decide)
    (hc : eval (.Call (.Attribute (.Name x p1) "__init__" p2) (e :: es) [] pos) X.env = (do
      let o9 ← eval (.Name x p1) X.env
      standAt p2.atName
      let (f9, r9) ← holding [o9] (getMethod o9 "__init__" pl)
      callWith pos f9 r9 (backTo pos (starEach (e :: es) X.env)) (backToKw pos (keywordEach [] X.env))) := by rfl)
    (he : starEach (e :: es) X.env = (false, eval e X.env) :: starEach es X.env := by rfl) (hpl : (backTo pos (starEach es X.env)).any (·.1) = false := by rfl) :
    PE X (.Call (.Attribute (.Name x p1) "__init__" p2) (e :: es) [] pos) (tVeI X.K ta) := by
  refine ⟨fun pins s σ H Q I h => PySem.W.methodCall_KW (ld_glob I hg T.g ?_ hdb) hc⟩
  refine PySem.W.method_cls I.kIn T.s (PySem.W.cls_value I.kIn T.r T.v (by decide +kernel) ?_)
  show wpAny (model X.prog X.w) X.A (callWith pos (Value.builtin "ValueError.__init__") [] (backTo pos (starEach (e :: es) X.env)) []) _ _ _
  refine PyProof.Rows.callWith_method1 (thn (ha.run pos pins _ σ H _ (I.tok _) h) fun us s1 hh => ?_) he hpl
  obtain ⟨vs, H1, J, r, a, C, ws, ev, hl, O, ea, q⟩ := hh
  subst ev
  cases r with
  | @cons _ u0 _ ur ra rr =>
    cases (show u0 = Value.ref a from ra)
    exact oinit_ok O J ea (by rw [← Paired.length rr]; exact Nat.le_trans hl (by decide)) fun s' J' => ⟨.non, H1, J', rfl, q⟩
end
/-- the promise of such an __init__ -/
def spExI (f : Str) (K : PySem.W.Frag) : Sp := fun vs H Q _ => ∃ (a C : Addr) (v : V), vs = [.ref a, v] ∧ OexC K C ∧ PySem.W.findIn K (.ref C) f = some none ∧ H a = some (exo a C none) ∧ FmtV v ∧
  ∀ dx, H dx = none → dx ≠ a → Q .non (upd (upd H dx (exd dx [(f, v)])) a (exo a C (some dx)))
/-- what the written part says of the class at C -/
structure ExInit (K : PySem.W.Frag) (mg : Str → Option Value) (x f : Str) (C : Addr) : Prop where
  g : mg x = some (.ref C)
  o : OexC K C
  n : PySem.W.findIn K (.ref C) f = some none
  c : ExcC K C
def OkI (P : Program) (w : World) (K : PySem.W.Frag) (mg : Str → Option Value) (base : Heap) (x f : Str) (C : Addr) : Prop :=
  ∃ (fI : Addr) (fd : FuncData), PySem.W.findIn K (.ref C) "__init__" = some (some (.ref fI)) ∧ PySem.W.typeIn K (.ref fI) = some (.type "function") ∧ FnOk P w K mg base CX0 1 fI fd ["self", f] (spExI f K) ∧ Binds K fd ["self", f] [] ∧ ExInit K mg x f C
/-- the def __init__ of the class at C -/
def DfI (K : PySem.W.Frag) (C : Addr) (q : Str) (st : Stmt) (f : Str) : Prop := ∃ (fI : Addr) (fd : FuncData), PySem.W.findIn K (.ref C) "__init__" = some (some (.ref fI)) ∧ PySem.W.typeIn K (.ref fI) = some (.type "function") ∧ Fun K "__init__" q st fI fd ∧ Binds K fd ["self", f] []
section
variable {X : Cx}
theorem pmk_i {k' : Nat} {x f : Str} {C : Addr} {e : Expr} {ta : TA} {p pos : Pos} (O : OkI X.prog X.w X.K X.mg X.base x f C) (hr : Room k' X.A) (ha : PA X [e] ta) (hk : 2 ≤ k' := by decide) (hg : Gl X x := by rfl) (hdb : (x == ("__debug__" : Str)) = false := by decide)
    (he : starEach [e] X.env = (false, eval e X.env) :: starEach [] X.env := by rfl) (hpl : (backTo pos (starEach [] X.env)).any (·.1) = false := by rfl) : PMk X (.Call (.Name x p) [e] [] pos) (tMkO C (spExI f X.K) [] ta) := by
  obtain ⟨fI, fd, h1, h2, F, b, T⟩ := O
  exact pmk_oex T.o h1 h2 F (hr.mono hk) b .nil pass0 hg T.g ha hdb he hpl
end
/-- making it, at its reading -/
theorem mkx {K : PySem.W.Frag} {mg : Str → Option Value} {x f : Str} {C : Addr} {H : Hp} {v : V} {Q : XK} (T : ExInit K mg x f C) (fv : FmtV v) (q : ∀ d, H d = none → Q (.ref C) (some d) (upd H d (.xd [(f, v)]))) :
    [v].length ≤ 1000 ∧ ∀ a, H a = none → spExI f K (.ref a :: ([v] ++ [])) (upd H a (exo a C none)) (fun u H2 => u = .non ∧ ∃ (d : Addr) (fs : List (Str × V)), H2 a = some (exo a C (some d)) ∧ H2 d = some (exd d fs) ∧ H d = none ∧ Q (.ref C) (some d) (upd (del H2 a) d (.xd fs))) (fun _ _ _ => False) := by
  refine ⟨(by decide : 1 ≤ 1000), fun a ha => ⟨a, C, v, rfl, T.o, T.n, upd_same, fv, fun dx hd ne => ⟨rfl, dx, [(f, v)], upd_same, ?_, ?_, ?_⟩⟩⟩
  · rw [upd_ne ne, upd_same]
  · rw [upd_ne ne] at hd
    exact hd
  · rw [upd_ne ne] at hd
    have e : upd (del (upd (upd (upd H a (exo a C none)) dx (exd dx [(f, v)])) a (exo a C (some dx))) a) dx (.xd [(f, v)]) = upd H dx (.xd [(f, v)]) := by
      funext b
      by_cases h1 : b = dx
      · subst h1
        rw [upd_same, upd_same]
      · rw [upd_ne h1, upd_ne h1]
        by_cases h2 : b = a
        · subst h2
          rw [del_same, ha]
        · rw [del_ne h2, upd_ne h2, upd_ne h1, upd_ne h2]
    rw [e]
    exact q dx hd
/-! ### a kept exception with a dict: isinstance, its field -/
/-- the exception of the class D at a, with its dict or without -/
def ExAt (H : Hp) (D a : Addr) : Prop := H a = some (ExK (.ref D) none a) ∨ ∃ (dd : Addr) (fs : List (Str × V)), H a = some (ExK (.ref D) (some dd) a) ∧ H dd = some (.xd fs)
section
variable {prog : Program} {w : World} {A : Around} {E : Value → Shared → Prop} {s : Shared} {K : PySem.W.Frag} {x D : Addr} {ox : Obj} {od : Option Obj}
open PySem.W in
theorem class_of_exc {Q : Option Value → Shared → Prop} (C : ExcC K D) (X : K.In s.heap) (I : InstAt s.heap x ox D od) (h : Q (some (.ref D)) { s with toks := s.toks + 1 }) : wpAny (model prog w) A (getAttr? (.ref x) "__class__") Q E s := by
  obtain ⟨cd, hc, _⟩ := any_some C.hd
  have found : findObj K D od "__class__" = some (.bind (.builtin "getset_descriptor.__get__") (.builtin "object.__class__")) := by
    unfold findObj
    rw [hc, Option.bind_some, C.ha, Option.bind_some]
    simp [C.hn, C.ht]
  obtain ⟨hp, g, d, t, os⟩ := s
  have M0 := I.type (M := model prog w)
  have no : (Value.builtin "BaseException.__getattribute__" == Value.builtin "object.__getattribute__") = false := by decide +kernel
  have isE : Looks (model prog w) hp (isInstance (.ref x) (.type "BaseException")) true := M0.andThen (looks_subIn X C.hs)
  unfold getAttr? getAttrBy? getAttrBy
  refine wpAny_bind (wpAny_mkText (wpAny_bind (wpAny_attempt (wpAny_holding (wpAny_bind (M0.at (wpAny_bind ((looks_findIn (M := model prog w) X C.hg).at ?_))))))))
  show wpAny (model prog w) _ (if (true && Value.builtin "BaseException.__getattribute__" == Value.builtin "object.__getattribute__") = true then _ else _) _ _ _
  rw [no, if_neg (by decide)]
  unfold getAttrByItsOwn hookBefore
  refine wpAny_bind ?_
  rw [if_pos (show onTheHeap (.ref D) = true from rfl)]
  refine (looks_findIn (M := model prog w) X C.hk).at (wpAny_bind (wpAny_attempt (wpAny_holding ?_)))
  unfold callGetattribute
  rw [if_neg (by decide)]
  unfold boundAndCalled
  rw [F.excAttr_ValueError.ga.bind (.ref x)]
  refine wpAny_bind (wpAny_pure ?_)
  show wpAny (model prog w) _ (call (.builtin "BaseException.__getattribute__") [.ref x, .str "__class__" t]) _ _ _
  refine wpAny_call (codeAny_call_builtin F.excAttr_ValueError.ga.plain F.entry_bexc_ga (@check_slot (model prog w) _ _ ⟨hp, g, d, t + 1, os⟩ "BaseException.__getattribute__" "BaseException" "__getattribute__" (.ref x) [.str "__class__" t] [] _ (by decide +kernel) (by decide +kernel) isE (F.args_bexc_ga (.ref x) (.str "__class__" t)) ?_))
  unfold Builtin.«object.__getattribute__»
  refine wpAny_bind (wpAny_of_eq (a := ((Value.ref x : Value), [Value.str "__class__" t])) (by first | (simp only [slotArgs]; rfl) | rfl) (wpAny_bind (wpAny_pure (wpAny_bind (M0.at (wpAny_bind ((looks_find (M := model prog w) X I found).at ?_)))))))
  show wpAny (model prog w) _ (holding [Value.builtin "object.__class__"] (call (.builtin "getset_descriptor.__get__") [.builtin "object.__class__", .ref x, .ref D]) >>= ret) _ _ _
  refine wpAny_bind (wpAny_holding (wpAny_call (class_get (s := ⟨hp, g, d, t + 1, os⟩) (ox := ox) (od := od) X I C.hm (wpAny_pure ?_))))
  show wpAny (model prog w) _ (handedOut (.ref D)) _ _ _
  rw [handedOut_of (v := .ref D) rfl]
  first
    | exact wpAny_pure (wpAny_pure h)
    | exact wpAny_pure h
    | exact wpAny_pure (wpAny_bind (wpAny_pure (wpAny_pure h)))
open PySem.W in
theorem kitx_own (C : ExcC K D) : KitX K (.ref x) (.ref D) (fun h => InstAt h x ox D od) := by
  have Z := handS_kitx_exc (x := x) (ox := ox) C.hg C.hk C.hs C.hd C.ha C.hn C.ht C.hm
  refine ⟨fun _ _ _ I => I.type, fun M h X _ => ?_, Z.ne, fun X I k => class_of_exc C X I k⟩
  obtain ⟨cd, hc, _⟩ := any_some C.hd
  unfold clsIn at hc
  split at hc
  · rename_i ho
    intro A' Q' E' s' k q
    unfold isType loadHead
    exact wpAny_bind (wpAny_loadPart (k _ _ (X _ _ ho)) (wpAny_pure q))
  · cases hc
end
def rIsY (K : PySem.W.Frag) : List V → Hp → VK → Prop := fun xs H Q => ∃ (a D : Addr) (c : V) (u : Value) (b : Bool), xs = [.ref a, c] ∧ ExAt H D a ∧ ExcC K D ∧ ClsV c u ∧ PySem.W.kitOne K (.ref D) u = some b ∧ Q (.bl b) H
def rIsYT (K : PySem.W.Frag) : List V → Hp → VK → Prop := fun xs H Q => ∃ (a D tp : Addr) (cs : List V) (us : List Value) (b : Bool), xs = [.ref a, .ref tp] ∧ ExAt H D a ∧ ExcC K D ∧ H tp = some (.tup cs) ∧ Paired ClsV cs us ∧ PySem.W.kitAny K (.ref D) us = some b ∧ Q (.bl b) H
section
variable {X : Cx} {pins : List (Addr × Obj)} {σ : L2.St} {H : Hp} {s : Shared}
theorem inst_of (I : Inv X pins σ H s) {D a : Addr} (h : ExAt H D a) : ∃ oe od, PySem.W.InstAt s.heap a oe D od := by
  rcases h with h | ⟨dd, fs, h, hd⟩
  · obtain ⟨⟨oe, vs, he, hz, hv⟩, _⟩ := I.hok a _ h
    exact ⟨oe, none, instAt_kept he hz hv⟩
  · obtain ⟨⟨oe, vs, he, hz, hv⟩, _⟩ := I.hok a _ h
    have hx : ObjOk X.prog X.w H s.heap dd (.xd fs) := I.hok dd _ hd
    obtain ⟨mA, hns, _⟩ := hx
    obtain ⟨od, ho, _⟩ := lookIn_ns hns
    exact ⟨oe, some od, he, hz.1, by unfold PySem.W.notCls; rw [hv] <;> rfl, by rw [hz.2]; exact ho⟩
end
section
variable {X : Cx} (K : PySem.W.Frag)
theorem call_isY_k (hk : X.K = K := by rfl) : CallR X (.builtin "isinstance") (rIsY K) := by
  subst hk
  intro pins s σ H xs us Q I r h
  obtain ⟨a, D, c, u, b, rfl, ha, C, k, e, q⟩ := h
  obtain ⟨u1, u2, rfl, r1, r2⟩ := vals2 r
  have e2 := k.eq r2
  subst e2
  cases r1
  obtain ⟨oe, od, J⟩ := inst_of I ha
  exact PySem.W.kia_one (kitx_own C) I.kIn J e (fun z => nomatch z) fun tk => ⟨.bl b, H, I.tok tk, rfl, q⟩
theorem call_isYT_k (hk : X.K = K := by rfl) : CallR X (.builtin "isinstance") (rIsYT K) := by
  subst hk
  intro pins s σ H xs us Q I r h
  obtain ⟨a, D, tp, cs, ws, b, rfl, ha, C, hT, k, e, q⟩ := h
  obtain ⟨u1, u2, rfl, r1, r2⟩ := vals2 r
  cases r1
  cases (show u2 = Value.ref tp from r2)
  obtain ⟨oe, od9, J⟩ := inst_of I ha
  obtain ⟨_, its, rv, o, h1, h2, n, h3⟩ := (show ObjOk X.prog X.w H s.heap tp (.tup cs) from I.hok tp _ hT)
  have e3 := ClsV.all k rv
  subst e3
  obtain ⟨oc, od, dt, sl⟩ := o
  simp only at h2 h3
  subst h2 h3
  exact PySem.W.kia_tup (kitx_own C) I.kIn J h1 e (fun z => nomatch z) fun tk => ⟨.bl b, H, I.tok tk, rfl, q⟩
/-- e.f, e a kept exception -/
def tXfK (K : PySem.W.Frag) (f : Str) (te : TE) : TE := fun σ H Q => te σ H fun x H1 => ∃ (a C dd : Addr) (fs : List (Str × V)) (v : V), x = .ref a ∧ H1 a = some (ExK (.ref C) (some dd) a) ∧ H1 dd = some (.xd fs) ∧ ExcC K C ∧ PySem.W.findIn K (.ref C) f = some none ∧ fs.lookup f = some v ∧ Q v H1
theorem pe_xfK {e : Expr} {te : TE} {pos : Pos} {f : Str} (he : PE X e te) (hk : X.K = K := by rfl) (hb : attributeBase e f X.env (eval e X.env) = eval e X.env := by rfl) : PE X (.Attribute e f pos) (tXfK K f te) := by
  subst hk
  refine ⟨fun pins s σ H Q I h => attr_of hb (thn (he.run pins s σ H _ I h) fun u s1 hh => ?_)⟩
  obtain ⟨x, H1, J, rx, a, C, dd, fs, v, ex, ea, ed, T, hno, l, q⟩ := hh
  subst ex
  cases (show u = Value.ref a from rx)
  obtain ⟨⟨oe, vs, hoe, hz, hv⟩, _⟩ := J.hok a _ ea
  have hx : ObjOk X.prog X.w H1 s1.heap dd (.xd fs) := J.hok dd _ ed
  obtain ⟨mA, hns, hr⟩ := hx
  obtain ⟨od, ho, hl⟩ := lookIn_ns hns
  obtain ⟨u, hu, ru⟩ := RelO.some_of (v := v) (o := mA f) (by rw [← l]; exact hr f)
  have Z : PySem.W.InstAt s1.heap a oe C (some od) := ⟨hoe, hz.1, by unfold PySem.W.notCls; rw [hv] <;> rfl, by rw [hz.2]; exact ho⟩
  exact HandSPX.exc_get J.kIn Z T.hg T.hk T.hs (PySem.W.findObj_own T.hd hno rfl (by rw [hl, hu])) (handed_of ru) ⟨v, H1, J.tok _, ru, q⟩
end
end Dear

namespace Dear
open PySem PySem.Spec PyProof.Rows L2
/-! ### data, and how the heap bears them -/
inductive D where
  | non | bl (b : Bool) | int (i : Int) | str (z : Str) | lst (ds : List D) | tup (ds : List D) | dct
def kind : D → String
  | .non => "NoneType" | .bl _ => "bool" | .int _ => "int" | .str _ => "str" | .lst _ => "list" | .tup _ => "tuple" | .dct => "dict"
mutual
inductive Dt (H : Hp) : V → D → Prop
  | non : Dt H .non .non
  | bl (b : Bool) : Dt H (.bl b) (.bl b)
  | int (i : Int) : Dt H (.int i) (.int i)
  | str (z : Str) : Dt H (.str z) (.str z)
  | lst {a : Addr} {xs : List V} {ds : List D} : H a = some (.lst xs) → DtAll H xs ds → Dt H (.ref a) (.lst ds)
  | tup {a : Addr} {xs : List V} {ds : List D} : H a = some (.tup xs) → DtAll H xs ds → Dt H (.ref a) (.tup ds)
  | dct {a : Addr} {kvs : List (Key × V)} : H a = some (.dK kvs) → Dt H (.ref a) .dct
inductive DtAll (H : Hp) : List V → List D → Prop
  | nil : DtAll H [] []
  | cons {v : V} {vs : List V} {d : D} {ds : List D} : Dt H v d → DtAll H vs ds → DtAll H (v :: vs) (d :: ds)
end
mutual
theorem Dt.same {H H' : Hp} (s : Same H H') : ∀ {v : V} {d : D}, Dt H v d → Dt H' v d
  | _, _, .non => .non
  | _, _, .bl b => .bl b
  | _, _, .int i => .int i
  | _, _, .str z => .str z
  | _, _, .lst h a => .lst (s _ _ h) (DtAll.same s a)
  | _, _, .tup h a => .tup (s _ _ h) (DtAll.same s a)
  | _, _, .dct h => .dct (s _ _ h)
theorem DtAll.same {H H' : Hp} (s : Same H H') : ∀ {vs : List V} {ds : List D}, DtAll H vs ds → DtAll H' vs ds
  | _, _, .nil => .nil
  | _, _, .cons a b => .cons (Dt.same s a) (DtAll.same s b)
end
theorem DtAll.length {H : Hp} : ∀ {vs : List V} {ds : List D}, DtAll H vs ds → vs.length = ds.length
  | _, _, .nil => rfl
  | _, _, .cons _ b => by rw [List.length_cons, List.length_cons, DtAll.length b]
theorem DtAll.get {H : Hp} : ∀ {vs : List V} {ds : List D} {i : Nat} {v : V}, DtAll H vs ds → vs[i]? = some v → ∃ d, ds[i]? = some d ∧ Dt H v d
  | _, _, _, _, .nil, e => by simp at e
  | _, _, 0, _, .cons a _, e => by
    simp at e
    subst e
    exact ⟨_, rfl, a⟩
  | _, _, i + 1, v, .cons _ b, e => by
    obtain ⟨d, h1, h2⟩ := DtAll.get (i := i) (v := v) b (by simpa using e)
    exact ⟨d, by simpa using h1, h2⟩
theorem DtAll.app {H : Hp} : ∀ {vs us : List V} {ds es : List D}, DtAll H vs ds → DtAll H us es → DtAll H (vs ++ us) (ds ++ es)
  | _, _, _, _, .nil, s => s
  | _, _, _, _, .cons a b, s => .cons a (DtAll.app b s)
theorem DtAll.map {α : Type} {H : Hp} {f : α → V} {g : α → D} (h : ∀ a, Dt H (f a) (g a)) : ∀ l : List α, DtAll H (l.map f) (l.map g)
  | [] => .nil
  | a :: l => .cons (h a) (DtAll.map h l)
theorem Dt.ty {K : PySem.W.Frag} {H : Hp} {v : V} {d : D} (h : Dt H v d) : TyX K H v (.type (kind d)) := by
  cases h with
  | non => exact .base .non
  | bl b => exact .base (.bl b)
  | int i => exact .base (.int i)
  | str z => exact .base (.str z)
  | lst h _ => exact .base (.lst h)
  | tup h _ => exact .base (.tup h)
  | dct h => exact .base (.dK h)
/-! ### a heap without one object -/
def Off (l : Addr) (H : Hp) : Hp := fun b => if b = l then none else H b
theorem Off.sub (l : Addr) (H : Hp) : Same (Off l H) H := fun b o e => by
  unfold Off at e
  by_cases h : b = l
  · rw [if_pos h] at e
    cases e
  · rw [if_neg h] at e
    exact e
theorem off_ne {l b : Addr} {H : Hp} (h : b ≠ l) : Off l H b = H b := if_neg h
theorem But.off {l : Addr} {H H' : Hp} (a : But l H H') : Same (Off l H) (Off l H') := fun b o e => by
  by_cases h : b = l
  · have z := (if_pos h).symm.trans e
    cases z
  · rw [off_ne h] at e ⊢
    exact a b o e h
theorem sOff {l : Addr} {H H' : Hp} (a : Same H H') : Same (Off l H) (Off l H') := (But.of a).off
theorem Dt.on {l : Addr} {H : Hp} {v : V} {d : D} (h : Dt (Off l H) v d) : Dt H v d := h.same (Off.sub l H)
/-! ### what a display makes -/
def Mk (l : Addr) (σ : L2.St) (t : TE) (H : Hp) (d : D) : Prop := ∀ H1, Same H H1 → ∀ Q : VK, (∀ v H2, Same H1 H2 → Dt (Off l H2) v d → Q v H2) → t σ H1 Q
def MkA (l : Addr) (σ : L2.St) (t : TA) (H : Hp) (ds : List D) : Prop := ∀ H1, Same H H1 → ∀ Q : List V → Hp → Prop, (∀ vs H2, Same H1 H2 → DtAll (Off l H2) vs ds → Q vs H2) → t σ H1 Q
section
variable {l : Addr} {σ : L2.St} {H : Hp}
theorem mk_c {v : V} {d : D} (h : Dt (Off l H) v d) : Mk l σ (tC v) H d := fun H1 s _ q => q v H1 (Same.refl _) (h.same (sOff s))
theorem mk_var {i : Nat} {v : V} {d : D} (e : σ[i]? = some (some v)) (h : Dt (Off l H) v d) : Mk l σ (tVar i) H d := fun H1 s _ q => ⟨v, e, q v H1 (Same.refl _) (h.same (sOff s))⟩
theorem mka_nil : MkA l σ tNil H [] := fun H1 _ _ q => q [] H1 (Same.refl _) .nil
theorem mka_cons {t : TE} {u : TA} {d : D} {ds : List D} (h1 : Mk l σ t H d) (h2 : MkA l σ u H ds) : MkA l σ (tCons t u) H (d :: ds) := fun H1 s Q q => by
  refine h1 H1 s _ fun v H2 s2 d2 => ?_
  refine h2 H2 (s.trans s2) _ fun vs H3 s3 d3 => ?_
  exact q (v :: vs) H3 (s2.trans s3) (.cons (d2.same (sOff s3)) d3)
theorem sz_lit {n : Nat} (h : n ≤ 1000) : n ≤ sizeLine := Nat.le_of_lt (small1000 h)
theorem mk_tup {u : TA} {ds : List D} (h : MkA l σ u H ds) {o : HO} (hl : H l = some o) (hz : Nat.ble ds.length 1000 = true := by rfl) : Mk l σ (tTup u) H (.tup ds) := fun H1 s Q q => by
  refine h H1 s _ fun vs H2 s2 d2 => ?_
  refine ⟨sz_lit (by rw [d2.length]; exact Nat.le_of_ble_eq_true hz), fun p hp => ?_⟩
  have ne : p ≠ l := fun e => by
    subst e
    rw [s2 _ _ (s _ _ hl)] at hp
    cases hp
  exact q (.ref p) _ (s2.trans (Same.upd hp)) (.tup (by rw [off_ne ne]; exact upd_same) (d2.same (sOff (Same.upd hp))))
theorem mk_lst {u : TA} {ds : List D} (h : MkA l σ u H ds) {o : HO} (hl : H l = some o) (hz : Nat.ble ds.length 1000 = true := by rfl) : Mk l σ (tLst u) H (.lst ds) := fun H1 s Q q => by
  refine h H1 s _ fun vs H2 s2 d2 => ?_
  refine ⟨sz_lit (by rw [d2.length]; exact Nat.le_of_ble_eq_true hz), fun p hp => ?_⟩
  have ne : p ≠ l := fun e => by
    subst e
    rw [s2 _ _ (s _ _ hl)] at hp
    cases hp
  exact q (.ref p) _ (s2.trans (Same.upd hp)) (.lst (by rw [off_ne ne]; exact upd_same) (d2.same (sOff (Same.upd hp))))
theorem mk_dnew {o : HO} (hl : H l = some o) : Mk l σ tDNewK H .dct := fun H1 s Q q p hp => by
  have ne : p ≠ l := fun e => by
    subst e
    rw [s _ _ hl] at hp
    cases hp
  exact q (.ref p) _ (Same.upd hp) (.dct (by rw [off_ne ne]; exact upd_same))
theorem mk_neg {i : Int} : Mk l σ (tUn (rU fun i => .int (-i)) (tC (.int i))) H (.int (-i)) := fun H1 _ _ q => ⟨i, rfl, q _ H1 (Same.refl _) (.int _)⟩
/-- {k: v} -/
theorem mk_disp1 {o : HO} {k : Int} {v : V} (hl : H l = some o) : Mk l σ (tDisp [(tC (.int k), tC v)]) H .dct := fun H1 s Q q p hp => by
  have ne : p ≠ l := fun e => by
    subst e
    rw [s _ _ hl] at hp
    cases hp
  refine ⟨upd_same, [(.inl k, v)], rfl, (by show 1 ≤ 15; decide), ?_⟩
  rw [upd_upd]
  exact q (.ref p) _ (Same.upd hp) (.dct (by rw [off_ne ne]; exact upd_same))
theorem Mk.go {t : TE} {d : D} (h : Mk l σ t H d) {Q : VK} (q : ∀ v H2, Same H H2 → Dt (Off l H2) v d → Q v H2) : t σ H Q := h H (Same.refl H) Q q
/-- xs + [..] -/
theorem mk_cat {t u : TE} {ds es : List D} (h1 : Mk l σ t H (.lst ds)) (h2 : Mk l σ u H (.lst es)) {o : HO} (hl : H l = some o) (hz : Nat.ble (ds.length + es.length) 1000 = true := by rfl) : Mk l σ (tOp rCat t u) H (.lst (ds ++ es)) := fun H1 s Q q => by
  refine h1 H1 s _ fun v H2 s2 d2 => ?_
  refine h2 H2 (s.trans s2) _ fun v3 H3 s3 d3 => ?_
  cases d2 with
  | lst ha2 hall2 =>
    cases d3 with
    | lst ha3 hall3 =>
      have ha2' := s3 _ _ (Off.sub _ _ _ _ ha2)
      have ha3' := Off.sub _ _ _ _ ha3
      refine ⟨_, _, _, _, rfl, rfl, ha2', ha3', sz_lit (by rw [hall2.length, hall3.length]; exact Nat.le_of_ble_eq_true hz), fun p hp => ?_⟩
      have ne : p ≠ l := fun e => by
        subst e
        rw [s3 _ _ (s2 _ _ (s _ _ hl))] at hp
        cases hp
      exact q (.ref p) _ ((s2.trans s3).trans (Same.upd hp)) (.lst (by rw [off_ne ne]; exact upd_same) (((hall2.same (sOff s3)).app hall3).same (sOff (Same.upd hp))))
end
/-! ### sizes of data -/
abbrev Asc (z : Str) : Prop := ∀ c ∈ z.cps.toList, c < 128
mutual
def Ok : D → Prop
  | .int i => i.natAbs < 2 ^ 300
  | .str z => z.length ≤ 3000 ∧ Asc z
  | .lst ds => OkAll ds
  | .tup ds => OkAll ds
  | _ => True
def OkAll : List D → Prop
  | [] => True
  | d :: ds => Ok d ∧ OkAll ds
end
theorem OkAll.mem : ∀ {ds : List D} {d : D}, OkAll ds → d ∈ ds → Ok d
  | [], _, _, m => by simp at m
  | e :: r, d, h, m => by
    rcases List.mem_cons.mp m with rfl | m
    · exact h.1
    · exact OkAll.mem h.2 m
/-- places of a list -/
theorem at_lt {α : Type} {xs : List α} {r : Int} (h0 : 0 ≤ r) (h1 : r < xs.length) : ∃ v, atI xs r = some v ∧ v ∈ xs ∧ xs[r.toNat]? = some v := by
  obtain ⟨n, rfl⟩ := Int.eq_ofNat_of_zero_le h0
  have hn : n < xs.length := by omega
  exact ⟨xs[n], atI_nat (by simp [hn]), List.getElem_mem hn, by simp [hn]⟩
/-! ### the law's draws -/
def Src (H : Hp) (l : Addr) : Prop := ∃ n s : Int, H l = some (.lst [.int n, .int s]) ∧ 0 ≤ n ∧ 0 ≤ s ∧ s < 2147483647
theorem Src.same {H H' : Hp} {l : Addr} (h : Src H l) (s : Same H H') : Src H' l := by
  obtain ⟨n, z, e, r⟩ := h
  exact ⟨n, z, s _ _ e, r⟩
theorem Src.some {H : Hp} {l : Addr} (h : Src H l) : ∃ o, H l = Option.some o := by
  obtain ⟨n, z, e, r⟩ := h
  exact ⟨_, e⟩
theorem Src.ne {H : Hp} {l p : Addr} (h : Src H l) (hp : H p = none) : p ≠ l := fun e => by
  obtain ⟨o, ho⟩ := h.some
  rw [e, ho] at hp
  cases hp
theorem bit_lt (k : Bool) : -(2 ^ 64) < (if k = true then 1 else 0 : Int) ∧ (if k = true then 1 else 0 : Int) < 2 ^ 64 := by
  cases k <;> decide
theorem bit_ge (k : Bool) : 0 ≤ (if k = true then 1 else 0 : Int) := by
  cases k <;> decide
def spSource : Sp := fun vs H Q _ => ∃ (c k : Int), vs = [.int c, .int k] ∧ ∀ (l : Addr) (H' : Hp), H l = none → Same H H' → Src H' l → Q (.ref l) H'
def spDraw : Sp := fun vs H Q _ => ∃ (l : Addr) (m : Int), vs = [.ref l, .int m] ∧ Src H l ∧ 0 < m ∧ m.natAbs.log2 < 9000 ∧ ∀ (r : Int) (H' : Hp), 0 ≤ r → r < m → But l H H' → Src H' l → Q (.int r) H'
theorem log_small {m : Int} {n : Nat} (h0 : 0 < n) (h : m.natAbs < 2 ^ n) (hn : n ≤ 9000) : m.natAbs.log2 < 9000 := Nat.lt_of_lt_of_le (PySem.Flt.log2_lt_of h0 h) hn
end Dear

namespace Dear
open PySem PySem.Spec PyProof.Rows L2
/-! ### kinds of things -/
def isInt : D → Bool
  | .int _ => true
  | _ => false
def isBl : D → Bool
  | .bl _ => true
  | _ => false
def isStr : D → Bool
  | .str _ => true
  | _ => false
def isLst : D → Bool
  | .lst _ => true
  | _ => false
def isTup : D → Bool
  | .tup _ => true
  | _ => false
def isDct : D → Bool
  | .dct => true
  | _ => false
theorem kd_int : ∀ d : D, kitB (kind d) "int" = some (isInt d || isBl d)
  | .non => (by decide +kernel : kitB "NoneType" "int" = some false)
  | .bl _ => (by decide +kernel : kitB "bool" "int" = some true)
  | .int _ => (by decide +kernel : kitB "int" "int" = some true)
  | .str _ => (by decide +kernel : kitB "str" "int" = some false)
  | .lst _ => (by decide +kernel : kitB "list" "int" = some false)
  | .tup _ => (by decide +kernel : kitB "tuple" "int" = some false)
  | .dct => (by decide +kernel : kitB "dict" "int" = some false)
theorem kd_bool : ∀ d : D, kitB (kind d) "bool" = some (isBl d)
  | .non => (by decide +kernel : kitB "NoneType" "bool" = some false)
  | .bl _ => (by decide +kernel : kitB "bool" "bool" = some true)
  | .int _ => (by decide +kernel : kitB "int" "bool" = some false)
  | .str _ => (by decide +kernel : kitB "str" "bool" = some false)
  | .lst _ => (by decide +kernel : kitB "list" "bool" = some false)
  | .tup _ => (by decide +kernel : kitB "tuple" "bool" = some false)
  | .dct => (by decide +kernel : kitB "dict" "bool" = some false)
theorem kd_str : ∀ d : D, kitB (kind d) "str" = some (isStr d)
  | .non => (by decide +kernel : kitB "NoneType" "str" = some false)
  | .bl _ => (by decide +kernel : kitB "bool" "str" = some false)
  | .int _ => (by decide +kernel : kitB "int" "str" = some false)
  | .str _ => (by decide +kernel : kitB "str" "str" = some true)
  | .lst _ => (by decide +kernel : kitB "list" "str" = some false)
  | .tup _ => (by decide +kernel : kitB "tuple" "str" = some false)
  | .dct => (by decide +kernel : kitB "dict" "str" = some false)
theorem kd_list : ∀ d : D, kitB (kind d) "list" = some (isLst d)
  | .non => (by decide +kernel : kitB "NoneType" "list" = some false)
  | .bl _ => (by decide +kernel : kitB "bool" "list" = some false)
  | .int _ => (by decide +kernel : kitB "int" "list" = some false)
  | .str _ => (by decide +kernel : kitB "str" "list" = some false)
  | .lst _ => (by decide +kernel : kitB "list" "list" = some true)
  | .tup _ => (by decide +kernel : kitB "tuple" "list" = some false)
  | .dct => (by decide +kernel : kitB "dict" "list" = some false)
theorem kd_tuple : ∀ d : D, kitB (kind d) "tuple" = some (isTup d)
  | .non => (by decide +kernel : kitB "NoneType" "tuple" = some false)
  | .bl _ => (by decide +kernel : kitB "bool" "tuple" = some false)
  | .int _ => (by decide +kernel : kitB "int" "tuple" = some false)
  | .str _ => (by decide +kernel : kitB "str" "tuple" = some false)
  | .lst _ => (by decide +kernel : kitB "list" "tuple" = some false)
  | .tup _ => (by decide +kernel : kitB "tuple" "tuple" = some true)
  | .dct => (by decide +kernel : kitB "dict" "tuple" = some false)
theorem kd_dict : ∀ d : D, kitB (kind d) "dict" = some (isDct d)
  | .non => (by decide +kernel : kitB "NoneType" "dict" = some false)
  | .bl _ => (by decide +kernel : kitB "bool" "dict" = some false)
  | .int _ => (by decide +kernel : kitB "int" "dict" = some false)
  | .str _ => (by decide +kernel : kitB "str" "dict" = some false)
  | .lst _ => (by decide +kernel : kitB "list" "dict" = some false)
  | .tup _ => (by decide +kernel : kitB "tuple" "dict" = some false)
  | .dct => (by decide +kernel : kitB "dict" "dict" = some true)
/-! ### is_whole, divisor, lowest, is_fraction, is_name -/
def spWhole : Sp := fun vs H Q _ => ∃ (v : V) (d : D), vs = [v] ∧ Dt H v d ∧ Q (.bl (isInt d)) H
def spDivisor : Sp := fun vs H Q _ => ∃ (a b : Int), vs = [.int a, .int b] ∧ 0 ≤ a ∧ 0 ≤ b ∧ Q (.int (Int.gcd a b)) H
/-- in lowest terms -/
def lowT (t b : Int) : Int := t / (Int.gcd b t : Int)
def lowB (t b : Int) : Int := b / (Int.gcd b t : Int)
def spLowest : Sp := fun vs H Q _ => ∃ (t b : Int), vs = [.int t, .int b] ∧ 0 < b ∧ b.natAbs.log2 < 9000 ∧ ∀ (p : Addr) (H' : Hp), H p = none → Same H H' → H' p = some (.tup [.int (lowT t b), .int (lowB t b)]) → Q (.ref p) H'
def isFr : D → Bool
  | .tup [.int t, .int b] => decide (0 < b) && (Int.gcd b t == 1)
  | _ => false
theorem isFr_len : ∀ {ds : List D}, ds.length ≠ 2 → isFr (.tup ds) = false
  | [], _ => rfl
  | [d], _ => by cases d <;> rfl
  | [_, _], h => absurd rfl h
  | d :: e :: _ :: _, _ => by cases d <;> cases e <;> rfl
def spFr : Sp := fun vs H Q _ => ∃ (v : V) (d : D), vs = [v] ∧ Dt H v d ∧ Ok d ∧ ∀ H', Same H H' → Q (.bl (isFr d)) H'
def letters : Str := "abcdefghijklmnopqrstuvwxyz"
def isNm : D → Bool
  | .str z => decide (1 ≤ z.length ∧ z.length ≤ 8) && z.cps.toList.all fun c => decide (c ∈ letters.cps.toList)
  | _ => false
def spNm : Sp := fun vs H Q _ => ∃ (v : V) (d : D), vs = [v] ∧ Dt H v d ∧ Ok d ∧ ∀ H', Same H H' → Q (.bl (isNm d)) H'
theorem gcd_step {a b : Int} (h0 : 0 ≤ a) (h : 0 < b) : Int.gcd b (a % b) = Int.gcd a b := by
  obtain ⟨m, rfl⟩ := Int.eq_ofNat_of_zero_le h0
  obtain ⟨n, rfl⟩ := Int.eq_ofNat_of_zero_le (Int.le_of_lt h)
  show Nat.gcd n (((m : Int) % (n : Int)).natAbs) = Nat.gcd m n
  rw [← Int.natCast_emod, Int.natAbs_natCast, Nat.gcd_comm n, ← Nat.gcd_rec, Nat.gcd_comm]
theorem abs_if (t : Int) : (if t < 0 then -t else t) = (t.natAbs : Int) := by
  split <;> omega
theorem gcd_abs (b t : Int) : Int.gcd b (t.natAbs : Int) = Int.gcd b t := by
  show Nat.gcd b.natAbs ((t.natAbs : Int).natAbs) = Nat.gcd b.natAbs t.natAbs
  rw [Int.natAbs_natCast]
theorem gcd_pos {b : Int} (t : Int) (h : 0 < b) : 0 < (Int.gcd b t : Int) := by
  have h1 : 0 < Int.gcd b t := Nat.gcd_pos_of_pos_left _ (by omega)
  omega
theorem gcd_le {b : Int} (t : Int) (h : 0 < b) : (Int.gcd b t : Int) ≤ b := by
  have h1 : Int.gcd b t ≤ b.natAbs := Nat.le_of_dvd (by omega) (Nat.gcd_dvd_left _ _)
  omega
theorem gcd_log {b : Int} (t : Int) (h : 0 < b) (hl : b.natAbs.log2 < 9000) : ((Int.gcd b t : Nat) : Int).natAbs.log2 < 9000 := by
  have h1 := gcd_le t h
  have h2 : b.natAbs < 2 ^ 9000 := Nat.lt_of_lt_of_le Nat.lt_log2_self (Nat.pow_le_pow_right (by decide) hl)
  have h3 : ((Int.gcd b t : Nat) : Int).natAbs < 2 ^ 9000 := Nat.lt_of_le_of_lt (by omega) h2
  exact PySem.Flt.log2_lt_of (by decide) h3
/-- a fraction is in lowest terms just where it is what lowest makes of it -/
theorem low_eq {t b : Int} (h : 0 < b) : ((lowT t b == t) && (lowB t b == b)) = (Int.gcd b t == 1) := by
  have g0 := gcd_pos t h
  by_cases e : Int.gcd b t = 1
  · have e1 : lowT t b = t := by unfold lowT; rw [e]; exact Int.ediv_one t
    have e2 : lowB t b = b := by unfold lowB; rw [e]; exact Int.ediv_one b
    rw [e1, e2, e]
    simp
  · have e3 : lowB t b ≠ b := by
      unfold lowB
      have g2 : (Int.gcd b t : Int) ≠ 1 := by omega
      have := Int.ediv_lt_self_of_pos_of_ne_one h g2
      omega
    have e4 : (lowB t b == b) = false := by simpa using e3
    have e5 : (Int.gcd b t == 1) = false := by simpa using e
    rw [e4, e5, Bool.and_false]
/-! ### texts -/
theorem in_letters_asc {c : Nat} (h : c ∈ letters.cps.toList) : c < 128 := by
  have : ∀ c ∈ letters.cps.toList, c < 128 := by decide +kernel
  exact this c h
end Dear

namespace Dear
open PySem PySem.Spec PyProof.Rows L2
/-! ### texts and lists of texts -/
theorem join_tl (ys : List Str) : (Txt.join "" ys).cps.toList = (ys.map fun y => y.cps.toList).flatten := by
  rw [TL.join_eq]
  have e := TL.tl_join ("" : Str) ys
  have e0 : TL.tl ("" : Str) = [] := by decide +kernel
  rw [e0] at e
  have g : ∀ l : List (List Nat), TL.joinL [] l = l.flatten := by
    intro l
    induction l with
    | nil => rfl
    | cons a r ih =>
      cases r with
      | nil => simp [TL.joinL]
      | cons b r =>
        rw [List.flatten_cons, ← ih]
        simp [TL.joinL]
  rw [g] at e
  exact e
/-- texts of one sign each -/
def Ones (ys : List Str) : Prop := ∀ y ∈ ys, y.length = 1 ∧ Asc y
theorem ones_join {ys : List Str} (h : Ones ys) : (Txt.join "" ys).length = ys.length ∧ Asc (Txt.join "" ys) := by
  constructor
  · rw [TL.len_tl, TL.tl, join_tl]
    induction ys with
    | nil => rfl
    | cons a r ih =>
      rw [List.map_cons, List.flatten_cons, List.length_append, ih fun y hy => h y (List.mem_cons_of_mem _ hy), List.length_cons]
      have h1 := (h a List.mem_cons_self).1
      rw [TL.len_tl] at h1
      have h2 : a.cps.toList.length = 1 := h1
      show a.cps.toList.length + r.length = r.length + 1
      omega
  · intro c hc
    rw [join_tl] at hc
    obtain ⟨l, hl, hc⟩ := List.mem_flatten.mp hc
    obtain ⟨y, hy, rfl⟩ := List.mem_map.mp hl
    exact (h y hy).2 c hc
theorem ones_size {ys : List Str} (h : Ones ys) (hl : ys.length ≤ 1000) : (ys.map (·.length)).sum + ys.length * ("" : Str).length ≤ 16777216 := by
  have e : (ys.map (·.length)).sum = ys.length := by
    clear hl
    induction ys with
    | nil => rfl
    | cons a r ih =>
      rw [List.map_cons, List.sum_cons, ih fun y hy => h y (List.mem_cons_of_mem _ hy), (h a List.mem_cons_self).1, List.length_cons]
      omega
  have e0 : ("" : Str).length = 0 := by decide +kernel
  rw [e, e0]
  omega
theorem dp_strs {K : PySem.W.Frag} {H : Hp} : ∀ ys : List Str, DpAll K H (ys.map V.str) (ys.map PyData.str)
  | [] => .nil
  | y :: ys => .cons (.str y) (dp_strs ys)
theorem strOk_asc {z : Str} (h : Asc z) : PyData.strOk z = true := by
  unfold PyData.strOk
  rw [Array.all_eq_true']
  intro c hc
  have := h c (by simpa using hc)
  simp
  omega
theorem depth_strs : ∀ ys : List Str, PyData.depthAll (ys.map PyData.str) = 0
  | [] => rfl
  | y :: ys => by
    rw [List.map_cons]
    show max (PyData.depth (.str y)) (PyData.depthAll (ys.map PyData.str)) = 0
    rw [depth_strs ys]
    rfl
theorem lay_strs : ∀ {ys : List Str}, (∀ y ∈ ys, Asc y) → PyData.canLayAll0 (ys.map PyData.str) = true
  | [], _ => rfl
  | y :: ys, h => by
    rw [List.map_cons]
    show (PyData.canLay0 (.str y) && PyData.canLayAll0 (ys.map PyData.str)) = true
    rw [lay_strs fun z hz => h z (List.mem_cons_of_mem _ hz), Bool.and_true]
    exact strOk_asc (h y List.mem_cons_self)
theorem shaped_strs {ys : List Str} (h : ∀ y ∈ ys, Asc y) : SeqAt.shaped (.list (ys.map PyData.str)) = true := by
  show (PyData.canLayAll0 (ys.map PyData.str) && decide (PyData.depthAll (ys.map PyData.str) + 1 ≤ 64)) = true
  rw [lay_strs h, depth_strs]
  rfl
theorem shaped_nil : SeqAt.shaped (.list []) = true := by decide +kernel
theorem eqv_nil : ∀ ds : List PyData, PyData.eqv (.list ds) (.list []) = ds.isEmpty
  | [] => by simp [PyData.eqv, PyData.eqvAll]
  | _ :: _ => by simp [PyData.eqv, PyData.eqvAll]
theorem all_empty {α β : Type} (l : List α) (p : α → Bool) (f : α → β) : l.all p = ((l.filter fun c => !p c).map f).isEmpty := by
  induction l with
  | nil => rfl
  | cons a r ih =>
    rw [List.all_cons, ih, List.filter_cons]
    cases p a <;> simp
theorem asc_one {c : Nat} (h : c < 128) : Asc ⟨#[c]⟩ := fun x hx => by
  have : x = c := by simpa using hx
  omega
theorem ixN_lt {n : Nat} {r : Int} (h0 : 0 ≤ r) (h1 : r < n) : ixN n r = some r.toNat := by
  unfold ixN
  rw [if_pos h0, if_pos h1]
theorem off_some {l p : Addr} {H : Hp} {o : HO} (h : Off l H p = some o) : p ≠ l ∧ H p = some o := by
  have ne : p ≠ l := fun e => by
    have z := (if_pos e).symm.trans h
    cases z
  rw [off_ne ne] at h
  exact ⟨ne, h⟩
theorem mem_cut {xs : List V} {lo hi : Option Int} {v : V} (h : v ∈ cutV xs lo hi) : v ∈ xs := List.mem_of_mem_drop (List.mem_of_mem_take h)
theorem get_ints {ns : List Int} {xs : List V} (h : ∀ v ∈ xs, v ∈ ns.map V.int) {i : Nat} {v : V} (e : xs[i]? = some v) : ∃ z, v = .int z ∧ z ∈ ns := by
  have := h v (List.mem_of_getElem? e)
  obtain ⟨z, hz, rfl⟩ := List.mem_map.mp this
  exact ⟨z, rfl, hz⟩
/-- one of a list that was made -/
theorem pick {l : Addr} {H H1 : Hp} {p : Addr} {ds : List D} (h : Dt (Off l H) (.ref p) (.lst ds)) (ok : OkAll ds) (B : But l H H1) {r : Int} (r0 : 0 ≤ r) (r1 : r < ds.length) :
    ∃ (xs : List V) (v : V) (d : D), H1 p = some (.lst xs) ∧ atI xs r = some v ∧ Dt (Off l H1) v d ∧ Ok d ∧ d ∈ ds := by
  cases h with
  | lst ha hall =>
    rename_i xs
    obtain ⟨ne, hp⟩ := off_some ha
    obtain ⟨v, hv, _, hr⟩ := at_lt (xs := xs) r0 (by rw [hall.length]; exact r1)
    obtain ⟨d, hd, h⟩ := hall.get hr
    have hm := List.mem_of_getElem? hd
    exact ⟨xs, v, d, B _ _ hp ne, hv, h.same B.off, ok.mem hm, hm⟩
theorem But.same0 {l : Addr} {H H1 H2 : Hp} (s : Same H H1) (h : H l = none) (B : But l H1 H2) : Same H H2 := fun c o e => B c o (s c o e) (ne_of_none e h)
theorem log_le {m : Int} (n : Nat) (h : m.natAbs ≤ n) (hn : n < 2 ^ 40 := by decide) : m.natAbs.log2 < 9000 := log_small (n := 40) (by decide) (Nat.lt_of_le_of_lt h hn) (by decide)
end Dear

namespace Dear
open PySem PySem.Spec PyProof.Rows L2
/-! ### list(text), tuple(text) -/
def sgnsV (z : Str) : List V := z.cps.toList.map fun c => V.str ⟨#[c]⟩
theorem valsAt : ∀ {xs : List V} {us : List Value}, xs.length = us.length → (∀ (j : Nat) (x : V) (u : Value), xs[j]? = some x → us[j]? = some u → RelV x u) → Vals xs us
  | [], [], _, _ => .nil
  | [], _ :: _, h, _ => by simp at h
  | _ :: _, [], h, _ => by simp at h
  | x :: xs, u :: us, h, f => .cons (f 0 x u rfl rfl) (valsAt (by simpa using h) fun j y w h1 h2 => f (j + 1) y w (by simpa using h1) (by simpa using h2))
theorem vals_signs {z : Str} {acc : Array Value} (h : ItemsOf (SignAt z) acc z.cps.size) : Vals (sgnsV z) acc.toList := by
  have el : acc.toList.length = z.cps.size := by rw [Array.length_toList]; exact h.1
  refine valsAt (by unfold sgnsV; rw [List.length_map, el, Array.length_toList]) fun j x u h1 h2 => ?_
  obtain ⟨c, t, e1, e2⟩ := h.2 j u (by rw [← h2, Array.getElem?_toList])
  unfold sgnsV at h1
  rw [List.getElem?_map, Array.getElem?_toList, e1] at h1
  cases h1
  exact ⟨t, e2⟩
section
variable {X : Cx}
def rListTx : List V → Hp → VK → Prop := fun xs H Q => ∃ z, xs = [.str z] ∧ z.length ≤ 1000 ∧ ∀ l, H l = none → Q (.ref l) (upd H l (.lst (sgnsV z)))
def rTupTx : List V → Hp → VK → Prop := fun xs H Q => ∃ z, xs = [.str z] ∧ z.length ≤ 1000 ∧ ∀ l, H l = none → Q (.ref l) (upd H l (.tup (sgnsV z)))
theorem call_list_tx (hc : X.calm = true) : CallR X (.type "list") rListTx := by
  intro pins s σ H xs us Q I r h
  obtain ⟨z, e, hz, q⟩ := h
  subst e
  obtain ⟨u, eu, t, rfl⟩ := vals1 r
  subst eu
  have hz' : z.cps.size ≤ sizeLine := sz_lit hz
  refine call_list_str (hn := hz') (I.ok.hd hc) z t fun h' tk acc c' hk e' hi => ?_
  refine ⟨.ref s.heap.objs.size, upd H s.heap.objs.size (.lst (sgnsV z)), I.laid hk (Nat.le_refl _) (show ObjOk X.prog X.w _ _ _ (.lst (sgnsV z)) from ⟨?_, acc.toList, c', vals_signs hi, ?_⟩), rfl, q _ (I.hok.fresh (Nat.le_refl _))⟩
  · unfold sgnsV
    rw [List.length_map, Array.length_toList]
    exact hz'
  · rw [Array.toArray_toList]; exact e'
theorem call_tuple_tx (hc : X.calm = true) : CallR X (.type "tuple") rTupTx := by
  intro pins s σ H xs us Q I r h
  obtain ⟨z, e, hz, q⟩ := h
  subst e
  obtain ⟨u, eu, t, rfl⟩ := vals1 r
  subst eu
  have hz' : z.cps.size ≤ sizeLine := sz_lit hz
  refine call_tuple_str (hsz := hz') (I.ok.hd hc) z t fun h' tk acc hk hi => ?_
  have I2 : Inv X pins σ H { s with heap := h', toks := tk } := I.kept hk
  refine ⟨.ref h'.objs.size, upd H h'.objs.size (.tup (sgnsV z)), I2.laid (t' := tk) (fun c o e => Heap.get?_push_of_some _ e) (Nat.le_refl _) (show ObjOk X.prog X.w _ _ _ (.tup (sgnsV z)) from ⟨?_, acc.toList, vals_signs hi, ?_⟩), rfl, q _ (I2.hok.fresh (Nat.le_refl _))⟩
  · unfold sgnsV
    rw [List.length_map, Array.length_toList]
    exact hz'
  · rw [Array.toArray_toList]; exact IsTup.new _ _
end
section
variable {l : Addr} {σ : L2.St} {H : Hp}
theorem dt_signs {H : Hp} : ∀ cs : List Nat, DtAll H (cs.map fun c => V.str ⟨#[c]⟩) (cs.map fun c => D.str ⟨#[c]⟩)
  | [] => .nil
  | c :: cs => .cons (.str _) (dt_signs cs)
theorem mk_ltx {i : Nat} {z : Str} {o : HO} (e : σ[i]? = some (some (.str z))) (hz : z.length ≤ 1000) (hl : H l = some o) : Mk l σ (tCB rListTx (tCons (tVar i) tNil)) H (.lst (z.cps.toList.map fun c => D.str ⟨#[c]⟩)) := fun H1 s Q q => by
  refine ⟨_, e, z, rfl, hz, fun p hp => ?_⟩
  have ne : p ≠ l := fun e => by
    subst e
    rw [s _ _ hl] at hp
    cases hp
  exact q (.ref p) _ (Same.upd hp) (.lst (by rw [off_ne ne]; exact upd_same) (dt_signs _))
theorem mk_ttx {i : Nat} {z : Str} {o : HO} (e : σ[i]? = some (some (.str z))) (hz : z.length ≤ 1000) (hl : H l = some o) : Mk l σ (tCB rTupTx (tCons (tVar i) tNil)) H (.tup (z.cps.toList.map fun c => D.str ⟨#[c]⟩)) := fun H1 s Q q => by
  refine ⟨_, e, z, rfl, hz, fun p hp => ?_⟩
  have ne : p ≠ l := fun e => by
    subst e
    rw [s _ _ hl] at hp
    cases hp
  exact q (.ref p) _ (Same.upd hp) (.tup (by rw [off_ne ne]; exact upd_same) (dt_signs _))
end
end Dear

namespace Dear
open PySem PySem.Spec PyProof.Rows L2
/-- law's: a list of at most 63 ints is handed in, True comes out -/
def spLaw (K : PySem.W.Frag) : Sp := fun vs H Q _ => ∃ (a : Addr) (ns : List Int), vs = [.ref a] ∧ SqL K H a (ns.map V.int) ∧ ns.length ≤ 63 ∧ ∀ H', Q (.bl true) H'
end Dear

namespace Dear
open PySem PySem.Spec PyProof.Rows L2
/-! ### slices of texts -/
def sgn (c : Nat) : Str := ⟨#[c]⟩
theorem str_one {z : Str} (h : z.length = 1) : ∃ c, z = ⟨#[c]⟩ := by
  obtain ⟨⟨l⟩⟩ := z
  match l, h with
  | [c], _ => exact ⟨c, rfl⟩
theorem inV_strs (z : Str) : ∀ ys : List Str, inV (.str z) (ys.map V.str) = decide (z ∈ ys)
  | [] => by simp [inV]
  | y :: ys => by
    have ih := inV_strs z ys
    unfold inV at ih ⊢
    rw [List.map_cons, List.any_cons, ih]
    by_cases e : y = z
    · subst e
      simp [eqV]
    · have e' : ¬ z = y := fun q => e q.symm
      have h1 : eqV (.str y) (.str z) = false := by simp [eqV, e]
      simp [h1, e']
theorem flat_str (ys : List Str) : (ys.map V.str).all flatV = true := by
  rw [List.all_eq_true]
  intro x hx
  obtain ⟨y, _, rfl⟩ := List.mem_map.mp hx
  rfl
theorem sgn_inj {a b : Nat} (h : sgn a = sgn b) : a = b := by
  have := congrArg (fun z : Str => z.cps.toList) h
  simpa [sgn] using this
/-- the text of these code points -/
def txt (l : List Nat) : Str := ⟨l.toArray⟩
theorem txt_list (l : List Nat) : (txt l).cps.toList = l := List.toList_toArray ..
theorem txt_length (l : List Nat) : (txt l).length = l.length := List.size_toArray ..
theorem txt_of (z : Str) : z = txt z.cps.toList := by
  cases z
  rfl
theorem str_len (a b : Str) : (a ++ b).length = a.length + b.length := by
  show (a.cps ++ b.cps).size = _
  exact Array.size_append
theorem txt_inj {a b : List Nat} (h : txt a = txt b) : a = b := by
  have := congrArg (fun z : Str => z.cps.toList) h
  simpa [txt_list] using this
theorem txt_app (a b : List Nat) : txt a ++ txt b = txt (a ++ b) := by
  show (⟨a.toArray ++ b.toArray⟩ : Str) = ⟨(a ++ b).toArray⟩
  simp
theorem cut_txt (l : List Nat) (lo hi : Option Int) : cutS (txt l) lo hi = txt ((l.drop (HT.sIx l.length 0 lo)).take (HT.sIx l.length l.length hi - HT.sIx l.length 0 lo)) := by
  unfold cutS
  rw [txt_list, txt_length]
  rfl
theorem cut_pre (l : List Nat) (j : Nat) : cutS (txt l) none (some (j : Int)) = txt (l.take j) := by
  rw [cut_txt, HT.sIx_none, HT.sIx_nat, List.drop_zero, Nat.sub_zero]
  congr 1
  by_cases h : j ≤ l.length
  · rw [Nat.min_eq_left h]
  · rw [Nat.min_eq_right (by omega), List.take_length, List.take_of_length_le (by omega)]
theorem cut_from (l : List Nat) (j : Nat) : cutS (txt l) (some (j : Int)) none = txt (l.drop j) := by
  rw [cut_txt, HT.sIx_none, HT.sIx_nat]
  congr 1
  by_cases h : j ≤ l.length
  · rw [Nat.min_eq_left h, List.take_of_length_le (by rw [List.length_drop]; exact Nat.le_refl _)]
  · rw [Nat.min_eq_right (by omega), List.drop_length, List.drop_of_length_le (by omega), List.take_nil]
theorem cut_last0 : cutS (txt []) (some (-1)) none = "" := by decide +kernel
theorem cut_last (l : List Nat) (c : Nat) : cutS (txt (l ++ [c])) (some (-1)) none = txt [c] := by
  rw [cut_txt, HT.sIx_none]
  have e1 : HT.sIx (l ++ [c]).length 0 (some (-1)) = l.length := by
    show (if (-1 : Int) < 0 then (-1 + ((l ++ [c]).length : Int)).toNat else min (-1 : Int).toNat (l ++ [c]).length) = l.length
    rw [if_pos (by decide), List.length_append]
    show (-1 + ((l.length + 1 : Nat) : Int)).toNat = _
    omega
  rw [e1, List.drop_left, List.take_of_length_le]
  rw [List.length_append]
  show 1 ≤ l.length + 1 - l.length
  omega
theorem cut_init {l : List Nat} {e : Nat} : cutS (txt (l ++ [e])) none (some (-1)) = txt l := by
  have e1 : HT.sIx (l ++ [e]).length (l ++ [e]).length (some (-1)) = l.length := by
    show (if (-1 : Int) < 0 then (-1 + ((l ++ [e]).length : Int)).toNat else min (-1 : Int).toNat (l ++ [e]).length) = l.length
    rw [if_pos (by decide), List.length_append]
    show (-1 + ((l.length + 1 : Nat) : Int)).toNat = _
    omega
  rw [cut_txt, HT.sIx_none, e1, List.drop_zero, Nat.sub_zero, List.take_left]
theorem at_last {l : List Nat} {e : Nat} : atI (txt (l ++ [e])).cps.toList (-1) = some e := by
  rw [txt_list]
  unfold atI ixN
  rw [if_neg (by decide), if_pos (by rw [List.length_append]; show -((l.length + 1 : Nat) : Int) ≤ -1; omega)]
  have e1 : (-1 + ((l ++ [e]).length : Int)).toNat = l.length := by
    rw [List.length_append]
    show (-1 + ((l.length + 1 : Nat) : Int)).toNat = _
    omega
  rw [e1]
  show (l ++ [e])[l.length]? = some e
  rw [List.getElem?_append_right (Nat.le_refl _), Nat.sub_self]
  rfl
theorem sgn_txt (c : Nat) : sgn c = txt [c] := rfl
theorem txt_snoc (l : List Nat) (c : Nat) : txt l ++ sgn c = txt (l ++ [c]) := by
  show (⟨l.toArray ++ #[c]⟩ : Str) = ⟨(l ++ [c]).toArray⟩
  simp
/-- the sign ahead of the j-th one -/
def aheadOf (l : List Nat) (j : Nat) : Str := cutS (cutS (txt l) none (some (j : Int))) (some (-1)) none
theorem ahead_zero (l : List Nat) : aheadOf l 0 = "" := by
  unfold aheadOf
  rw [cut_pre, List.take_zero]
  exact cut_last0
theorem ahead_succ {l : List Nat} {j : Nat} {c : Nat} (h : l[j]? = some c) : aheadOf l (j + 1) = txt [c] := by
  unfold aheadOf
  rw [cut_pre, List.take_add_one, h, Option.toList_some, cut_last]
end Dear

namespace Dear
open PySem PySem.Spec PyProof.Rows L2
/-! ### data of tuples alone: they stay whatever lists are changed -/
mutual
def Pu : D → Prop
  | .lst _ => False
  | .dct => False
  | .tup ds => PuAll ds
  | _ => True
def PuAll : List D → Prop
  | [] => True
  | d :: ds => Pu d ∧ PuAll ds
end
def TP (H H' : Hp) : Prop := ∀ b xs, H b = some (.tup xs) → H' b = some (.tup xs)
theorem TP.refl (H : Hp) : TP H H := fun _ _ h => h
theorem TP.trans {H H1 H2 : Hp} (a : TP H H1) (b : TP H1 H2) : TP H H2 := fun c xs h => b c xs (a c xs h)
theorem TP.same {H H' : Hp} (s : Same H H') : TP H H' := fun b xs h => s b _ h
theorem TP.but {l : Addr} {H H' : Hp} (s : But l H H') {xs : List V} (hl : H l = some (.lst xs)) : TP H H' := fun b ys h => s b _ h (ne_of h hl (by intro z; cases z))
theorem TP.src {l : Addr} {H H' : Hp} (s : But l H H') (hl : Src H l) : TP H H' := by
  obtain ⟨n, z, e, _⟩ := hl
  exact TP.but s e
theorem TP.upd {H : Hp} {p : Addr} {xs : List V} {o : HO} (h : H p = some (.lst xs)) : TP H (L2.upd H p o) := fun b ys e => by
  rw [upd_ne (ne_of e h (by intro z; cases z))]
  exact e
mutual
theorem Dt.tp {H H' : Hp} (t : TP H H') : ∀ {v : V} {d : D}, Pu d → Dt H v d → Dt H' v d
  | _, _, _, .non => .non
  | _, _, _, .bl b => .bl b
  | _, _, _, .int i => .int i
  | _, _, _, .str z => .str z
  | _, _, p, .lst _ _ => p.elim
  | _, _, p, .tup h a => .tup (t _ _ h) (DtAll.tp t p a)
  | _, _, p, .dct _ => p.elim
theorem DtAll.tp {H H' : Hp} (t : TP H H') : ∀ {vs : List V} {ds : List D}, PuAll ds → DtAll H vs ds → DtAll H' vs ds
  | _, _, _, .nil => .nil
  | _, _, p, .cons a b => .cons (Dt.tp t p.1 a) (DtAll.tp t p.2 b)
end
theorem PuAll.app : ∀ {ds es : List D}, PuAll ds → PuAll es → PuAll (ds ++ es)
  | [], _, _, h => h
  | _ :: _, _, a, h => ⟨a.1, PuAll.app a.2 h⟩
theorem OkAll.app : ∀ {ds es : List D}, OkAll ds → OkAll es → OkAll (ds ++ es)
  | [], _, _, h => h
  | _ :: _, _, a, h => ⟨a.1, OkAll.app a.2 h⟩
theorem DtAll.strs {H : Hp} : ∀ {xs : List V} {pre : List Str}, DtAll H xs (pre.map D.str) → xs = pre.map V.str
  | _, [], .nil => rfl
  | _, _ :: _, .cons (.str z) t => by
    rw [DtAll.strs t]
    rfl
theorem DtAll.take {H : Hp} : ∀ {xs : List V} {ds : List D} (n : Nat), DtAll H xs ds → DtAll H (xs.take n) (ds.take n)
  | _, _, 0, _ => .nil
  | _, _, _ + 1, .nil => .nil
  | _, _, n + 1, .cons a b => .cons a (DtAll.take n b)
theorem drop_get {α : Type} {l : List α} {i : Nat} {x : α} (h : l[i]? = some x) : l.drop i = x :: l.drop (i + 1) := by
  obtain ⟨h1, h2⟩ := List.getElem?_eq_some_iff.mp h
  rw [List.drop_eq_getElem_cons h1, h2]
theorem take_more {α : Type} {l : List α} {i : Nat} {x : α} (h : l[i]? = some x) : l.take (i + 1) = l.take i ++ [x] := by
  rw [List.take_succ, h]
  rfl
end Dear

namespace Dear
open PySem PySem.Spec PyProof.Rows L2
/-! ### data as the library's, for == -/
mutual
def py : D → PyData
  | .non => .none
  | .bl b => .bool b
  | .int i => .int i
  | .str z => .str z
  | .lst ds => .list (pyAll ds)
  | .tup ds => .tuple (pyAll ds)
  | .dct => .none
def pyAll : List D → List PyData
  | [] => []
  | d :: ds => py d :: pyAll ds
end
mutual
def NoD : D → Prop
  | .dct => False
  | .lst ds => NoDAll ds
  | .tup ds => NoDAll ds
  | _ => True
def NoDAll : List D → Prop
  | [] => True
  | d :: ds => NoD d ∧ NoDAll ds
end
mutual
theorem Dt.dp {K : PySem.W.Frag} {H : Hp} : ∀ {v : V} {d : D}, NoD d → Dt H v d → Dp K H v (py d)
  | _, _, _, .non => .non
  | _, _, _, .bl b => .bl b
  | _, _, _, .int i => .int i
  | _, _, _, .str z => .str z
  | _, _, n, .lst h a => .lst (SqL.of h) (DtAll.dp n a)
  | _, _, n, .tup h a => .tup (SqT.of h) (DtAll.dp n a)
  | _, _, n, .dct _ => n.elim
theorem DtAll.dp {K : PySem.W.Frag} {H : Hp} : ∀ {vs : List V} {ds : List D}, NoDAll ds → DtAll H vs ds → DpAll K H vs (pyAll ds)
  | _, _, _, .nil => .nil
  | _, _, n, .cons a b => .cons (Dt.dp n.1 a) (DtAll.dp n.2 b)
end
mutual
theorem lay_py : ∀ {d : D}, Ok d → NoD d → PyData.canLay0 (py d) = true
  | .non, _, _ => rfl
  | .bl _, _, _ => rfl
  | .int _, _, _ => rfl
  | .str _, o, _ => strOk_asc o.2
  | .lst _, o, n => layAll_py o n
  | .tup _, o, n => layAll_py o n
  | .dct, _, n => n.elim
theorem layAll_py : ∀ {ds : List D}, OkAll ds → NoDAll ds → PyData.canLayAll0 (pyAll ds) = true
  | [], _, _ => rfl
  | d :: ds, o, n => by
    show (PyData.canLay0 (py d) && PyData.canLayAll0 (pyAll ds)) = true
    rw [lay_py o.1 n.1, layAll_py o.2 n.2]
    rfl
end
/-! how deep -/
mutual
def dep : D → Nat
  | .lst ds => depAll ds + 1
  | .tup ds => depAll ds + 1
  | _ => 0
def depAll : List D → Nat
  | [] => 0
  | d :: ds => max (dep d) (depAll ds)
end
mutual
theorem dep_py : ∀ d : D, PyData.depth (py d) = dep d
  | .non => rfl
  | .bl _ => rfl
  | .int _ => rfl
  | .str _ => rfl
  | .lst ds => congrArg (· + 1) (depAll_py ds)
  | .tup ds => congrArg (· + 1) (depAll_py ds)
  | .dct => rfl
theorem depAll_py : ∀ ds : List D, PyData.depthAll (pyAll ds) = depAll ds
  | [] => rfl
  | d :: ds => by
    show max (PyData.depth (py d)) (PyData.depthAll (pyAll ds)) = max (dep d) (depAll ds)
    rw [dep_py d, depAll_py ds]
end
theorem shaped_py {d : D} (o : Ok d) (n : NoD d) (h : dep d ≤ 64) : SeqAt.shaped (py d) = true := by
  show (PyData.canLay0 (py d) && decide (PyData.depth (py d) ≤ 64)) = true
  rw [lay_py o n, dep_py, decide_eq_true h]
  rfl
theorem depAll_le : ∀ {ds : List D} {n : Nat}, (∀ d ∈ ds, dep d ≤ n) → depAll ds ≤ n
  | [], _, _ => Nat.zero_le _
  | d :: ds, n, h => Nat.max_le.mpr ⟨h d List.mem_cons_self, depAll_le fun x hx => h x (List.mem_cons_of_mem _ hx)⟩
theorem noAll_of : ∀ {ds : List D}, (∀ d ∈ ds, NoD d) → NoDAll ds
  | [], _ => trivial
  | d :: ds, h => ⟨h d List.mem_cons_self, noAll_of fun x hx => h x (List.mem_cons_of_mem _ hx)⟩
theorem strs_flat (zs : List Str) : (∀ d ∈ zs.map D.str, dep d ≤ 0) ∧ ∀ d ∈ zs.map D.str, NoD d := by
  constructor <;> intro d hd <;> obtain ⟨z, _, rfl⟩ := List.mem_map.mp hd
  · exact Nat.le_refl _
  · trivial
theorem eqv_same {d : PyData} (h : SeqAt.shaped d = true) : PyData.eqv d d = true := SeqAt.eqv_refl _ (SeqAt.canLay_of_shaped h)
end Dear

namespace Dear
open PySem PySem.Spec PyProof.Rows L2
/-! ### text * number -/
theorem fold_rep (a : Array Nat) : ∀ (k : Nat) (acc : Array Nat), ((List.replicate k a).foldl (· ++ ·) acc).toList = acc.toList ++ (List.replicate k a.toList).flatten
  | 0, acc => by simp
  | k + 1, acc => by
    rw [List.replicate_succ, List.replicate_succ, List.foldl_cons, fold_rep a k, List.flatten_cons, Array.toList_append, List.append_assoc]
def repT (l : List Nat) (k : Nat) : List Nat := (List.replicate k l).flatten
theorem repT_len (l : List Nat) (k : Nat) : (repT l k).length = k * l.length := by
  unfold repT
  simp
def rRepS : R2 := fun x y H Q => ∃ (l : List Nat) (n : Int), x = .str (txt l) ∧ y = .int n ∧ 0 ≤ n ∧ n ≤ 1000 ∧ l.length ≤ 1000 ∧ Q (.str (txt (repT l n.toNat))) H
theorem op_repS {X : Cx} : OpR X (binaryOp .Mult) rRepS := by
  intro pins s σ H x y v u Q I rx ry h
  obtain ⟨l, n, rfl, rfl, h0, h1, hl, q⟩ := h
  obtain ⟨t, rfl⟩ := rx
  obtain ⟨t', rfl⟩ := ry
  have ln := txt_length l
  have big : l.length * n.toNat ≤ 1000 * 1000 := Nat.mul_le_mul hl (by omega)
  refine PySem.P.mul_str (x := txt l) (by rw [decide_eq_false (by omega), decide_eq_false (by omega)]; rfl) (fun h2 _ => ?_) (fun _ _ => ?_) ?_
  · have h3 : 0 < n := by omega
    have h4 : ((txt l).length : Int) ≤ (2 ^ 63 - 1) / n := by
      rw [Int.le_ediv_iff_mul_le h3, ln]
      have e : ((l.length * n.toNat : Nat) : Int) = (l.length : Int) * n := by
        rw [Int.natCast_mul, Int.toNat_of_nonneg h0]
      rw [← e]
      omega
    omega
  · unfold Builtin.Str.tooLong
    rw [ln]
    refine decide_eq_false ?_
    have := sz_lit (n := 0) (by decide)
    rw [sizeLine_eq]
    omega
  · by_cases e1 : n < 1
    · rw [if_pos e1]
      have e2 : n = 0 := by omega
      subst e2
      exact ⟨by decide, .str (txt (repT l 0)), H, I.tok _, ⟨_, rfl⟩, q⟩
    · rw [if_neg e1]
      by_cases e2 : (n == 1 || (txt l).length == 0) = true
      · rw [if_pos e2]
        have e3 : repT l n.toNat = l := by
          rw [ln] at e2
          simp only [Bool.or_eq_true, beq_iff_eq] at e2
          rcases e2 with e2 | e2
          · subst e2
            simp [repT]
          · have e3 : l = [] := List.length_eq_zero_iff.mp e2
            subst e3
            simp [repT]
        rw [e3] at q
        exact ⟨.str (txt l), H, I, ⟨_, rfl⟩, q⟩
      · rw [if_neg e2]
        have e3 : (⟨(List.replicate n.toNat (txt l).cps).foldl (· ++ ·) #[]⟩ : Str) = txt (repT l n.toNat) := by
          rw [txt_of ⟨(List.replicate n.toNat (txt l).cps).foldl (· ++ ·) #[]⟩]
          congr 1
          show ((List.replicate n.toNat (txt l).cps).foldl (· ++ ·) #[]).toList = _
          rw [fold_rep, txt_list]
          rfl
        rw [e3]
        refine ⟨?_, .str (txt (repT l n.toNat)), H, I.tok _, ⟨_, rfl⟩, q⟩
        rw [txt_length, repT_len, Nat.mul_comm, sizeLine_eq]
        omega
end Dear

namespace Dear
open PySem PySem.Spec PyProof.Rows L2
/-! ### names and wants as author B's laws draw them -/
def letN (i : Nat) : Nat := letters.cps.toList.getD i 0
def sufL (a : Nat) : List Nat := if a / 26 = 0 then [] else if a / 26 = 1 then [97] else [122, 122]
def tellL (a : Nat) : List Nat := letN (a % 26) :: sufL a
def moreL (s : Nat) : List Nat := repT [letN (s % 26)] (s / 26 % 6)
def nameL (k s : Nat) : List Nat := if s % 2 = 0 then moreL s ++ tellL ((37 * k + s) % 61) else tellL ((37 * k + s) % 61) ++ moreL s
theorem letN_at {i : Nat} (h : i < 26) : letters.cps.toList[i]? = some (letN i) := by
  have hl : i < letters.cps.toList.length := by
    rw [show letters.cps.toList.length = 26 from by decide +kernel]
    exact h
  unfold letN
  rw [List.getD_eq_getElem?_getD, List.getElem?_eq_getElem hl]
  rfl
theorem letN_mem {i : Nat} (h : i < 26) : letN i ∈ letters.cps.toList := List.mem_of_getElem? (letN_at h)
theorem letN_atI {i : Nat} (h : i < 26) : atI letters.cps.toList (i : Int) = some (letN i) := atI_nat (letN_at h)
theorem suf_mem (a : Nat) : ∀ c ∈ sufL a, c ∈ letters.cps.toList := by
  unfold sufL
  split
  · exact fun _ h => nomatch h
  · split
    · decide +kernel
    · decide +kernel
theorem suf_len (a : Nat) : (sufL a).length ≤ 2 := by
  unfold sufL
  split
  · decide
  · split <;> decide
theorem tell_inj : ∀ a < 61, ∀ b < 61, tellL a = tellL b → a = b := by decide +kernel
theorem name_of (k s : Nat) : (∀ c ∈ nameL k s, c ∈ letters.cps.toList) ∧ 1 ≤ (nameL k s).length ∧ (nameL k s).length ≤ 8 := by
  have m1 : ∀ c ∈ moreL s, c ∈ letters.cps.toList := fun c hc => by
    unfold moreL repT at hc
    obtain ⟨l, hl, hc⟩ := List.mem_flatten.mp hc
    have := List.eq_of_mem_replicate hl
    subst this
    have : c = letN (s % 26) := by simpa using hc
    subst this
    exact letN_mem (Nat.mod_lt _ (by decide))
  have m2 : (moreL s).length ≤ 5 := by
    unfold moreL
    rw [repT_len]
    show s / 26 % 6 * 1 ≤ 5
    omega
  have t1 : ∀ a, ∀ c ∈ tellL a, c ∈ letters.cps.toList := fun a c hc => by
    rcases List.mem_cons.mp hc with rfl | hc
    · exact letN_mem (Nat.mod_lt _ (by decide))
    · exact suf_mem a c hc
  have t2 : ∀ a, (tellL a).length = (sufL a).length + 1 := fun _ => rfl
  have t3 := suf_len ((37 * k + s) % 61)
  have t4 := t2 ((37 * k + s) % 61)
  unfold nameL
  split
  · refine ⟨fun c hc => ?_, ?_, ?_⟩
    · rcases List.mem_append.mp hc with hc | hc
      · exact m1 c hc
      · exact t1 _ c hc
    · rw [List.length_append]; omega
    · rw [List.length_append]; omega
  · refine ⟨fun c hc => ?_, ?_, ?_⟩
    · rcases List.mem_append.mp hc with hc | hc
      · exact t1 _ c hc
      · exact m1 c hc
    · rw [List.length_append]; omega
    · rw [List.length_append]; omega
theorem name_inj {s i j : Nat} (hi : i < 61) (hj : j < 61) (h : nameL i s = nameL j s) : i = j := by
  have e : tellL ((37 * i + s) % 61) = tellL ((37 * j + s) % 61) := by
    unfold nameL at h
    split at h
    · exact List.append_cancel_left h
    · exact List.append_cancel_right h
  have := tell_inj _ (Nat.mod_lt _ (by decide)) _ (Nat.mod_lt _ (by decide)) e
  omega
/-! ### wants -/
def wantD (w : List Nat × Int) : D := .tup [.str (txt w.1), .int w.2]
structure WOk (w : List Nat × Int) : Prop where
  l : ∀ c ∈ w.1, c ∈ letters.cps.toList
  n1 : 1 ≤ w.1.length
  n8 : w.1.length ≤ 8
  c0 : 0 ≤ w.2
  c9 : w.2 ≤ 1000000000
structure WsOk (ws : List (List Nat × Int)) : Prop where
  all : ∀ w ∈ ws, WOk w
  nd : (ws.map Prod.fst).Nodup
theorem names_nodup (s n : Nat) (h : n ≤ 61) : ((List.range n).map fun k => nameL k s).Nodup := by
  rw [List.nodup_iff_pairwise_ne, List.pairwise_map]
  refine List.Pairwise.imp_of_mem ?_ (List.nodup_iff_pairwise_ne.mp List.nodup_range)
  intro a b ha hb hne e
  exact hne (name_inj (by have := List.mem_range.mp ha; omega) (by have := List.mem_range.mp hb; omega) e)
def isWant : D → Bool
  | .tup [a, .int c] => isNm a && decide (0 ≤ c ∧ c ≤ 1000000000)
  | _ => false
def nameD : D → Str
  | .tup (.str z :: _) => z
  | _ => ""
/-- the first that can't stand -/
def badAt (i : Nat) : List Str → List D → Option V
  | _, [] => none
  | seen, d :: r => if isWant d && !decide (nameD d ∈ seen) then badAt (i + 1) (seen ++ [nameD d]) r else some (.int (i : Nat))
def wantsBad : D → Option V
  | .lst ds => if 1 ≤ ds.length ∧ ds.length ≤ 20 then badAt 0 [] ds else some .non
  | _ => some .non
theorem nm_txt {l : List Nat} (h : ∀ c ∈ l, c ∈ letters.cps.toList) (h1 : 1 ≤ l.length) (h8 : l.length ≤ 8) : isNm (.str (txt l)) = true := by
  show (decide (1 ≤ (txt l).length ∧ (txt l).length ≤ 8) && (txt l).cps.toList.all fun c => decide (c ∈ letters.cps.toList)) = true
  rw [txt_length, txt_list, decide_eq_true ⟨h1, h8⟩, Bool.true_and, List.all_eq_true]
  exact fun c hc => decide_eq_true (h c hc)
theorem WOk.is {w : List Nat × Int} (h : WOk w) : isWant (wantD w) = true := by
  show (isNm (.str (txt w.1)) && decide (0 ≤ w.2 ∧ w.2 ≤ 1000000000)) = true
  rw [nm_txt h.l h.n1 h.n8, decide_eq_true ⟨h.c0, h.c9⟩]
  rfl
theorem bad_none : ∀ {ws : List (List Nat × Int)} {seen : List (List Nat)} {i : Nat}, (∀ w ∈ ws, WOk w) → (seen ++ ws.map Prod.fst).Nodup → badAt i (seen.map txt) (ws.map wantD) = none
  | [], _, _, _, _ => rfl
  | w :: ws, seen, i, h, nd => by
    have h1 := (h w List.mem_cons_self).is
    have h2 : ¬ txt w.1 ∈ seen.map txt := fun q => by
      obtain ⟨l, hl, e⟩ := List.mem_map.mp q
      have e := txt_inj e
      subst e
      exact (List.nodup_append.mp nd).2.2 _ hl _ (List.mem_cons_self ..) rfl
    show (if isWant (wantD w) && !decide (txt w.1 ∈ seen.map txt) then badAt (i + 1) (seen.map txt ++ [txt w.1]) (ws.map wantD) else _) = none
    rw [h1, decide_eq_false h2, if_pos (by rfl)]
    have := bad_none (ws := ws) (seen := seen ++ [w.1]) (i := i + 1) (fun x hx => h x (List.mem_cons_of_mem _ hx)) (by rw [List.append_assoc]; exact nd)
    rw [List.map_append] at this
    exact this
theorem wants_good {ws : List (List Nat × Int)} (h : WsOk ws) (h1 : 1 ≤ ws.length) (h2 : ws.length ≤ 20) : wantsBad (.lst (ws.map wantD)) = none := by
  show (if 1 ≤ (ws.map wantD).length ∧ (ws.map wantD).length ≤ 20 then badAt 0 [] (ws.map wantD) else some .non) = none
  rw [List.length_map, if_pos ⟨h1, h2⟩]
  exact bad_none (seen := []) h.all h.nd
theorem WOk.facts {w : List Nat × Int} (h : WOk w) : Ok (wantD w) ∧ NoD (wantD w) ∧ dep (wantD w) ≤ 1 := by
  refine ⟨⟨⟨?_, fun c hc => ?_⟩, ?_, trivial⟩, ⟨trivial, trivial, trivial⟩, Nat.le_refl _⟩
  · rw [txt_length]
    have := h.n8
    omega
  · rw [txt_list] at hc
    exact in_letters_asc (h.l c hc)
  · have h1 := h.c0
    have h2 := h.c9
    exact Nat.lt_of_lt_of_le (show w.2.natAbs < 2 ^ 40 by omega) (Nat.pow_le_pow_right (by decide) (by decide))
theorem wants_facts {ws : List (List Nat × Int)} (h : ∀ w ∈ ws, WOk w) : Ok (.lst (ws.map wantD)) ∧ NoD (.lst (ws.map wantD)) ∧ dep (.lst (ws.map wantD)) ≤ 64 := by
  refine ⟨?_, ?_, ?_⟩
  · show OkAll (ws.map wantD)
    induction ws with
    | nil => trivial
    | cons w r ih => exact ⟨(h w List.mem_cons_self).facts.1, ih fun x hx => h x (List.mem_cons_of_mem _ hx)⟩
  · refine noAll_of fun d hd => ?_
    obtain ⟨w, hw, rfl⟩ := List.mem_map.mp hd
    exact (h w hw).facts.2.1
  · have := depAll_le (ds := ws.map wantD) (n := 1) fun d hd => by
      obtain ⟨w, hw, rfl⟩ := List.mem_map.mp hd
      exact (h w hw).facts.2.2
    show depAll (ws.map wantD) + 1 ≤ 64
    omega
end Dear

namespace Dear
open PySem PySem.Spec PyProof.Rows L2
/-! ### what a display makes, of new objects alone -/
def New (H0 H : Hp) : Hp := fun b => if (H0 b).isSome then none else H b
theorem new_at {H0 H : Hp} {b : Addr} (h : H0 b = none) : New H0 H b = H b := by
  unfold New
  rw [h]
  rfl
theorem new_some {H0 H : Hp} {b : Addr} {o : HO} (h : New H0 H b = some o) : H0 b = none ∧ H b = some o := by
  unfold New at h
  cases e : H0 b with
  | none =>
    rw [e] at h
    exact ⟨rfl, h⟩
  | some u =>
    rw [e] at h
    cases h
theorem New.sub (H0 H : Hp) : Same (New H0 H) H := fun _ _ e => (new_some e).2
theorem New.mono {H0 H H' : Hp} (s : Same H H') : Same (New H0 H) (New H0 H') := fun b o e => by
  obtain ⟨h1, h2⟩ := new_some e
  rw [new_at h1]
  exact s _ _ h2
theorem New.but {H0 H H' : Hp} {l : Addr} {o : HO} (hl : H0 l = some o) (s : But l H H') : Same (New H0 H) (New H0 H') := fun b o e => by
  obtain ⟨h1, h2⟩ := new_some e
  rw [new_at h1]
  exact s _ _ h2 fun z => by
    rw [z, hl] at h1
    cases h1
theorem New.off {H0 H : Hp} {l : Addr} {o : HO} (hl : H0 l = some o) : Same (New H0 H) (Off l H) := fun b o e => by
  obtain ⟨h1, h2⟩ := new_some e
  rw [off_ne fun z => by
    rw [z, hl] at h1
    cases h1]
  exact h2
/-- one base heap in the other's place -/
theorem New.base {H0 H1 H : Hp} (s : Same H0 H1) : Same (New H1 H) (New H0 H) := fun b o e => by
  obtain ⟨h1, h2⟩ := new_some e
  rw [new_at]
  · exact h2
  · cases q : H0 b with
    | none => rfl
    | some u =>
      rw [s _ _ q] at h1
      cases h1
theorem same_none {H0 H1 : Hp} {p : Addr} (s : Same H0 H1) (h : H1 p = none) : H0 p = none := by
  cases q : H0 p with
  | none => rfl
  | some u =>
    rw [s _ _ q] at h
    cases h
def MkN (σ : L2.St) (t : TE) (H : Hp) (d : D) : Prop := ∀ H1, Same H H1 → ∀ Q : VK, (∀ v H2, Same H1 H2 → Dt (New H H2) v d → Q v H2) → t σ H1 Q
def MkNA (σ : L2.St) (t : TA) (H : Hp) (ds : List D) : Prop := ∀ H1, Same H H1 → ∀ Q : List V → Hp → Prop, (∀ vs H2, Same H1 H2 → DtAll (New H H2) vs ds → Q vs H2) → t σ H1 Q
section
variable {σ : L2.St} {H : Hp}
theorem mkn_c {v : V} {d : D} (h : ∀ H', Dt H' v d) : MkN σ (tC v) H d := fun H1 _ _ q => q v H1 (Same.refl _) (h _)
theorem mkn_var {i : Nat} {v : V} {d : D} (e : σ[i]? = some (some v)) (h : ∀ H', Dt H' v d) : MkN σ (tVar i) H d := fun H1 _ _ q => ⟨v, e, q v H1 (Same.refl _) (h _)⟩
/-- a number, reckoned -/
theorem mkn_i {t : TE} {i : Int} (h : ∀ (H1 : Hp) (Q : VK), Q (.int i) H1 → t σ H1 Q) : MkN σ t H (.int i) := fun H1 _ Q q => h H1 Q (q _ H1 (Same.refl _) (.int i))
theorem mkna_nil : MkNA σ tNil H [] := fun H1 _ _ q => q [] H1 (Same.refl _) .nil
theorem mkna_cons {t : TE} {u : TA} {d : D} {ds : List D} (h1 : MkN σ t H d) (h2 : MkNA σ u H ds) : MkNA σ (tCons t u) H (d :: ds) := fun H1 s Q q => by
  refine h1 H1 s _ fun v H2 s2 d2 => ?_
  refine h2 H2 (s.trans s2) _ fun vs H3 s3 d3 => ?_
  exact q (v :: vs) H3 (s2.trans s3) (.cons (d2.same (New.mono s3)) d3)
theorem mkn_tup {u : TA} {ds : List D} (h : MkNA σ u H ds) (hz : Nat.ble ds.length 1000 = true := by rfl) : MkN σ (tTup u) H (.tup ds) := fun H1 s Q q => by
  refine h H1 s _ fun vs H2 s2 d2 => ?_
  refine ⟨sz_lit (by rw [d2.length]; exact Nat.le_of_ble_eq_true hz), fun p hp => ?_⟩
  exact q (.ref p) _ (s2.trans (Same.upd hp)) (.tup (by rw [new_at (same_none (s.trans s2) hp)]; exact upd_same) (d2.same (New.mono (Same.upd hp))))
theorem mkn_lst {u : TA} {ds : List D} (h : MkNA σ u H ds) (hz : Nat.ble ds.length 1000 = true := by rfl) : MkN σ (tLst u) H (.lst ds) := fun H1 s Q q => by
  refine h H1 s _ fun vs H2 s2 d2 => ?_
  refine ⟨sz_lit (by rw [d2.length]; exact Nat.le_of_ble_eq_true hz), fun p hp => ?_⟩
  exact q (.ref p) _ (s2.trans (Same.upd hp)) (.lst (by rw [new_at (same_none (s.trans s2) hp)]; exact upd_same) (d2.same (New.mono (Same.upd hp))))
theorem mkn_dnew : MkN σ tDNewK H .dct := fun H1 s Q q p hp => q (.ref p) _ (Same.upd hp) (.dct (by rw [new_at (same_none s hp)]; exact upd_same))
theorem mkn_neg {i : Int} : MkN σ (tUn (rU fun i => .int (-i)) (tC (.int i))) H (.int (-i)) := fun H1 _ _ q => ⟨i, rfl, q _ H1 (Same.refl _) (.int _)⟩
theorem MkN.go {t : TE} {d : D} (h : MkN σ t H d) {Q : VK} (q : ∀ v H2, Same H H2 → Dt (New H H2) v d → Q v H2) : t σ H Q := h H (Same.refl H) Q q
theorem MkNA.go {t : TA} {ds : List D} (h : MkNA σ t H ds) {Q : List V → Hp → Prop} (q : ∀ vs H2, Same H H2 → DtAll (New H H2) vs ds → Q vs H2) : t σ H Q := h H (Same.refl H) Q q
end
section
variable {σ : L2.St} {H : Hp}
theorem s_tup {u : TA} {Q : VK} (h : u σ H fun vs H' => vs.length ≤ sizeLine ∧ ∀ p, H' p = none → Q (.ref p) (upd H' p (.tup vs))) : tTup u σ H Q := h
theorem s_lst {u : TA} {Q : VK} (h : u σ H fun vs H' => vs.length ≤ sizeLine ∧ ∀ p, H' p = none → Q (.ref p) (upd H' p (.lst vs))) : tLst u σ H Q := h
theorem s_cons {t : TE} {u : TA} {Q : List V → Hp → Prop} (h : t σ H fun v H1 => u σ H1 fun vs H2 => Q (v :: vs) H2) : tCons t u σ H Q := h
end
/-! data that avoid l and avoid q avoid both -/
mutual
theorem Dt.off2 {H : Hp} {l q : Addr} : ∀ {v : V} {d : D}, Dt (Off l H) v d → Dt (Off q H) v d → Dt (Off q (Off l H)) v d
  | _, _, .non, _ => .non
  | _, _, .bl b, _ => .bl b
  | _, _, .int i, _ => .int i
  | _, _, .str z, _ => .str z
  | _, _, .lst h1 a1, .lst h2 a2 => by
    obtain ⟨n1, e1⟩ := off_some h1
    obtain ⟨n2, e2⟩ := off_some h2
    rw [e1] at e2
    cases e2
    exact .lst (by rw [off_ne n2, off_ne n1]; exact e1) (DtAll.off2 a1 a2)
  | _, _, .tup h1 a1, .tup h2 a2 => by
    obtain ⟨n1, e1⟩ := off_some h1
    obtain ⟨n2, e2⟩ := off_some h2
    rw [e1] at e2
    cases e2
    exact .tup (by rw [off_ne n2, off_ne n1]; exact e1) (DtAll.off2 a1 a2)
  | _, _, .dct h1, .dct h2 => by
    obtain ⟨n1, e1⟩ := off_some h1
    obtain ⟨n2, e2⟩ := off_some h2
    exact .dct (by rw [off_ne n2, off_ne n1]; exact e1)
theorem DtAll.off2 {H : Hp} {l q : Addr} : ∀ {vs : List V} {ds : List D}, DtAll (Off l H) vs ds → DtAll (Off q H) vs ds → DtAll (Off q (Off l H)) vs ds
  | _, _, .nil, _ => .nil
  | _, _, .cons a b, .cons c d => .cons (Dt.off2 a c) (DtAll.off2 b d)
end
theorem TP.off {H : Hp} {l : Addr} {xs : List V} (h : H l = some (.lst xs)) : TP H (Off l H) := fun b ys e => by
  rw [off_ne (ne_of e h (by intro z; cases z))]
  exact e
theorem lt300 {n : Nat} (h : n < 2 ^ 200) : n < 2 ^ 300 := Nat.lt_of_lt_of_le h (Nat.pow_le_pow_right (by decide) (by decide))
theorem cutV_pre (l : List V) (j : Nat) : cutV l none (some (j : Int)) = l.take j := by
  unfold cutV
  rw [HT.sIx_none, HT.sIx_nat, List.drop_zero, Nat.sub_zero]
  by_cases h : j ≤ l.length
  · rw [Nat.min_eq_left h]
  · rw [Nat.min_eq_right (by omega), List.take_length, List.take_of_length_le (by omega)]
theorem cutV_from (l : List V) (j : Nat) : cutV l (some (j : Int)) none = l.drop j := by
  unfold cutV
  rw [HT.sIx_none, HT.sIx_nat]
  by_cases h : j ≤ l.length
  · rw [Nat.min_eq_left h, List.take_of_length_le (by rw [List.length_drop]; exact Nat.le_refl _)]
  · rw [Nat.min_eq_right (by omega), List.drop_length, List.drop_of_length_le (by omega), List.take_nil]
theorem DtAll.drop {H : Hp} : ∀ {vs : List V} {ds : List D} (n : Nat), DtAll H vs ds → DtAll H (vs.drop n) (ds.drop n)
  | _, _, 0, h => h
  | _, _, _ + 1, .nil => .nil
  | _, _, n + 1, .cons _ b => DtAll.drop n b
theorem DtAll.set {H : Hp} {v : V} {d : D} (h : Dt H v d) : ∀ {vs : List V} {ds : List D} (n : Nat), DtAll H vs ds → DtAll H (vs.set n v) (ds.set n d)
  | _, _, _, .nil => .nil
  | _, _, 0, .cons _ b => .cons h b
  | _, _, n + 1, .cons a b => .cons a (DtAll.set h n b)
theorem OkAll.take : ∀ {ds : List D} (n : Nat), OkAll ds → OkAll (ds.take n)
  | _, 0, _ => trivial
  | [], _ + 1, _ => trivial
  | _ :: _, n + 1, h => ⟨h.1, OkAll.take n h.2⟩
theorem OkAll.drop : ∀ {ds : List D} (n : Nat), OkAll ds → OkAll (ds.drop n)
  | _, 0, h => h
  | [], _ + 1, _ => trivial
  | _ :: _, n + 1, h => OkAll.drop n h.2
theorem OkAll.set {d : D} (h : Ok d) : ∀ {ds : List D} (n : Nat), OkAll ds → OkAll (ds.set n d)
  | [], _, _ => trivial
  | _ :: _, 0, g => ⟨h, g.2⟩
  | _ :: _, n + 1, g => ⟨g.1, OkAll.set h n g.2⟩
/-- a list's item at a drawn place -/
theorem pickN {H0 H : Hp} {xs : List V} {ds : List D} (hall : DtAll (New H0 H) xs ds) (ok : OkAll ds) {r : Int} (r0 : 0 ≤ r) (r1 : r < ds.length) : ∃ (v : V) (d : D), atI xs r = some v ∧ Dt (New H0 H) v d ∧ Ok d := by
  obtain ⟨v, hv, _, hr⟩ := at_lt (xs := xs) r0 (by rw [hall.length]; exact r1)
  obtain ⟨d, hd, h⟩ := hall.get hr
  exact ⟨v, d, hv, h, ok.mem (List.mem_of_getElem? hd)⟩
theorem okS {z : Str} (h : z.length ≤ 3000 := by decide +kernel) (a : Asc z := by decide +kernel) : Ok (.str z) := ⟨h, a⟩
theorem okI {i : Int} (h : i.natAbs < 2 ^ 200 := by decide) : Ok (.int i) := lt300 h
theorem But.none {l p : Addr} {H H' : Hp} (B : But l H H') (h : H' p = none) (ne : p ≠ l) : H p = none := by
  cases e : H p with
  | none => rfl
  | some o =>
    rw [B _ _ e ne] at h
    cases h
theorem new_back {H H1 H2 : Hp} {l : Addr} (B : But l H H1) (S1 : Src H1 l) : Same (New H1 H2) (New H H2) := fun b o e => by
  obtain ⟨h1, h2⟩ := new_some e
  rw [new_at (B.none h1 (S1.ne h1))]
  exact h2
section
variable {l : Addr} {σ : L2.St} {H : Hp} {K : PySem.W.Frag}
theorem mk_tupof {i : Nat} {p : Addr} {xs : List V} {ds : List D} {o : HO} (e : σ[i]? = some (some (.ref p))) (hp : H p = some (.lst xs)) (hd : DtAll (Off l H) xs ds) (hl : H l = some o) : Mk l σ (tCB (rTupOf K) (tCons (tVar i) tNil)) H (.tup ds) := fun H1 s Q q => by
  refine ⟨_, e, p, xs, rfl, .inl ⟨SqL.of (s _ _ hp), fun r hr => ?_⟩⟩
  have ne : r ≠ l := fun z => by
    subst z
    rw [s _ _ hl] at hr
    cases hr
  exact q (.ref r) _ (Same.upd hr) (.tup (by rw [off_ne ne]; exact upd_same) (hd.same (sOff (s.trans (Same.upd hr)))))
end
theorem dt_rep {H : Hp} {v : V} {d : D} (h : Dt H v d) : ∀ n : Nat, DtAll H (List.replicate n [v]).flatten (List.replicate n d)
  | 0 => .nil
  | n + 1 => by
    rw [List.replicate_succ, List.replicate_succ, List.flatten_cons]
    exact .cons h (dt_rep h n)
theorem ok_rep {d : D} (h : Ok d) : ∀ n : Nat, OkAll (List.replicate n d)
  | 0 => trivial
  | n + 1 => ⟨h, ok_rep h n⟩
theorem Src.lst {H : Hp} {l : Addr} (S : Src H l) : ∃ xs, H l = Option.some (.lst xs) := by
  obtain ⟨n, z, e, _⟩ := S
  exact ⟨_, e⟩
end Dear

namespace Dear
open PySem PySem.Spec PyProof.Rows L2
/-! ### numbers and their figures -/
def figL (n : Nat) : List Nat := (Nat.toDigits 10 n).map Char.toNat
theorem digitC : ∀ d : Nat, d < 10 → (Nat.digitChar d).toNat = 48 + d := by decide
theorem fig_small {n : Nat} (h : n < 10) : figL n = [48 + n] := by
  unfold figL
  rw [Nat.toDigits_of_lt_base h]
  show [(Nat.digitChar n).toNat] = _
  rw [digitC n h]
theorem fig_step {n : Nat} (h : ¬ n < 10) : figL n = figL (n / 10) ++ [48 + n % 10] := by
  have hm : n % 10 < 10 := Nat.mod_lt n (by decide)
  have t : Nat.toDigits 10 (n / 10) ++ Nat.toDigits 10 (n % 10) = Nat.toDigits 10 (10 * (n / 10) + n % 10) := Nat.toDigits_append_toDigits (by decide) (by omega) hm
  rw [Nat.div_add_mod] at t
  have e := fig_small hm
  unfold figL at e ⊢
  rw [← t, List.map_append, e]
theorem fig_ne (n : Nat) : figL n ≠ [] := by
  by_cases h : n < 10
  · rw [fig_small h]
    exact List.cons_ne_nil _ _
  · rw [fig_step h]
    exact List.append_ne_nil_of_right_ne_nil _ (List.cons_ne_nil _ _)
theorem fig_dig (n : Nat) : ∀ c ∈ figL n, 48 ≤ c ∧ c ≤ 57 := by
  intro c hc
  obtain ⟨ch, hch, rfl⟩ := List.mem_map.mp hc
  exact digit_range (Nat.isDigit_of_mem_toDigits (by decide) (by decide) hch)
theorem fig_head (n : Nat) : 0 < n → (figL n).head? ≠ some 48 := by
  induction n using Nat.strongRecOn with
  | _ n ih =>
    intro h0
    by_cases h : n < 10
    · rw [fig_small h]
      intro e
      injection e with e
      omega
    · rw [fig_step h]
      have := ih (n / 10) (by omega) (by omega)
      have ne := fig_ne (n / 10)
      cases e : figL (n / 10) with
      | nil => exact absurd e ne
      | cons c r =>
        rw [e] at this
        exact this
theorem fig_len {n k : Nat} (hk : 1 ≤ k) (h : n < 10 ^ k) : (figL n).length ≤ k := by
  unfold figL
  rw [List.length_map]
  exact PySem.toDigits_len_pow (by decide) hk h
theorem fig_val (n : Nat) : PySem.NumText.digitsVal (figL n) = n := PySem.W.KIN.val_back n
theorem str_num (n : Nat) : Str.ofString (toString (n : Int)) = txt (figL n) := by
  rw [txt_of (Str.ofString (toString (n : Int))), PySem.W.KIN.signs_num]
  rfl
theorem str_neg {n : Nat} (h : 0 < n) : Str.ofString (toString (-(n : Int))) = txt (45 :: figL n) := by
  obtain ⟨m, rfl⟩ : ∃ m, n = m + 1 := ⟨n - 1, by omega⟩
  have e : toString (-((m + 1 : Nat) : Int)) = "-" ++ Nat.repr (m + 1) := rfl
  rw [txt_of (Str.ofString (toString (-((m + 1 : Nat) : Int)))), e, signs_ofString, String.toList_append, List.map_append]
  have e2 : (Nat.repr (m + 1)).toList.map Char.toNat = figL (m + 1) := by
    rw [Nat.toList_repr]
    rfl
  rw [e2]
  rfl
def figures : Str := "0123456789"
theorem fig_in {c : Nat} (h : 48 ≤ c ∧ c ≤ 57) : c ∈ figures.cps.toList := by
  have e : figures.cps.toList = [48, 49, 50, 51, 52, 53, 54, 55, 56, 57] := by decide +kernel
  rw [e]
  simp only [List.mem_cons, List.not_mem_nil, or_false]
  omega
theorem in_fig {c : Nat} (h : c ∈ figures.cps.toList) : 48 ≤ c ∧ c ≤ 57 := by
  have e : figures.cps.toList = [48, 49, 50, 51, 52, 53, 54, 55, 56, 57] := by decide +kernel
  rw [e] at h
  simp only [List.mem_cons, List.not_mem_nil, or_false] at h
  omega
theorem fig_at {d : Nat} (h : d < 10) : atI figures.cps.toList (d : Int) = some (48 + d) := by
  have e : figures.cps.toList = [48, 49, 50, 51, 52, 53, 54, 55, 56, 57] := by decide +kernel
  rw [e]
  refine atI_nat ?_
  have : d = 0 ∨ d = 1 ∨ d = 2 ∨ d = 3 ∨ d = 4 ∨ d = 5 ∨ d = 6 ∨ d = 7 ∨ d = 8 ∨ d = 9 := by omega
  rcases this with rfl | rfl | rfl | rfl | rfl | rfl | rfl | rfl | rfl | rfl <;> rfl
/-- what whole_in tells -/
def wholeOk (m : Int) (l : List Nat) : Bool := decide (1 ≤ (l.length : Int) ∧ (l.length : Int) ≤ m) && !(decide (1 < l.length) && decide (l.head? = some 48)) && l.all fun c => decide (c ∈ figures.cps.toList)
def wholeIn (m : Int) (l : List Nat) : V := if wholeOk m l then .int (PySem.NumText.digitsVal l : Nat) else .non
theorem whole_fig {n : Nat} (h : n < 10 ^ 60) : wholeIn 60 (figL n) = .int (n : Nat) := by
  have hl := fig_len (by decide) h
  have h1 : 1 ≤ (figL n).length := List.length_pos_iff.mpr (fig_ne n)
  have e : wholeOk 60 (figL n) = true := by
    unfold wholeOk
    rw [decide_eq_true (show 1 ≤ ((figL n).length : Int) ∧ ((figL n).length : Int) ≤ 60 by omega), Bool.true_and, Bool.and_eq_true]
    refine ⟨?_, List.all_eq_true.mpr fun c hc => decide_eq_true (fig_in (fig_dig n c hc))⟩
    by_cases h0 : 0 < n
    · rw [decide_eq_false (fig_head n h0), Bool.and_false]
      rfl
    · have : n = 0 := by omega
      subst this
      rw [fig_small (by decide)]
      rfl
  unfold wholeIn
  rw [if_pos e, fig_val]
theorem int_text {l : List Nat} {m : Int} (h : wholeOk m l = true) (hm : m ≤ 600) : PySem.intText? (txt l) = some ((PySem.NumText.digitsVal l : Nat) : Int) := by
  unfold wholeOk at h
  rw [Bool.and_eq_true, Bool.and_eq_true, decide_eq_true_eq, List.all_eq_true] at h
  obtain ⟨⟨h1, _⟩, h3⟩ := h
  have e := PySem.intText_digits (x := txt l) (fun c hc => in_fig (of_decide_eq_true (h3 c (by rw [txt_list] at hc; exact hc)))) (by rw [txt_list]; intro z; rw [z] at h1; exact absurd h1.1 (by decide)) (by rw [txt_length]; omega)
  rw [txt_list] at e
  exact e
/-- the text of a fraction -/
def fracL (t b : Int) : List Nat := (if t < 0 then [45] else []) ++ figL t.natAbs ++ (if b = 1 then [] else 47 :: figL b.natAbs)
theorem split_txt {l : List Nat} {parts : List (List Nat)} (h : TL.spl [47] 0 [] l = parts) : Txt.split (txt l) "/" = parts.map txt := by
  have e0 : TL.tl ("/" : Str) = [47] := by decide +kernel
  have k1 : Builtin.Str.strKind ("/" : Str) ≤ Builtin.Str.strKind (txt l) := by
    have e : Builtin.Str.strKind ("/" : Str) = 1 := by decide +kernel
    rw [e]
    unfold Builtin.Str.strKind
    (repeat' split) <;> decide
  have := TL.split_spl (txt l) "/" (by rw [e0]; exact List.cons_ne_nil _ _) (Nat.not_lt.mpr k1)
  rw [e0, show TL.tl (txt l) = l from txt_list l, h] at this
  have g : ∀ (zs : List Str), (zs.map TL.tl).map txt = zs := fun zs => by
    rw [List.map_map]
    conv => rhs; rw [← List.map_id' zs]
    refine List.map_congr_left fun z _ => ?_
    exact (txt_of z).symm
  rw [← this, g]
theorem fig_noslash (n : Nat) : 47 ∉ figL n := fun h => by
  have := fig_dig n 47 h
  omega
theorem split_one (n : Nat) : Txt.split (txt (figL n)) "/" = [txt (figL n)] := split_txt (parts := [figL n]) (by
  have := TL.spl_last1 (S := []) (acc := []) (fig_noslash n)
  rw [List.nil_append] at this
  exact this)
theorem split_two (n m : Nat) : Txt.split (txt (figL n ++ 47 :: figL m)) "/" = [txt (figL n), txt (figL m)] := split_txt (parts := [figL n, figL m]) (by
  have := TL.spl_part1 (S := []) (acc := []) (rest := figL m) (fig_noslash n)
  rw [List.nil_append] at this
  have e2 := TL.spl_last1 (S := []) (acc := []) (fig_noslash m)
  rw [List.nil_append] at e2
  rw [e2] at this
  exact this)
end Dear

namespace Dear
open PySem PySem.Spec PyProof.Rows L2
/-! ### plain books: texts of which none begins another -/
theorem starts_txt (a b : List Nat) : Txt.startswith (txt a) (txt b) = decide (b <+: a) := by
  unfold Txt.startswith
  rw [PySem.StrLaws.subAt_eq, txt_list, txt_list, txt_length, txt_length, List.drop_zero, Nat.zero_add]
  by_cases h : b <+: a
  · have h1 := List.prefix_iff_eq_take.mp h
    have h2 := h.length_le
    rw [decide_eq_true h, decide_eq_true h2, ← h1]
    simp
  · rw [decide_eq_false h]
    have h1 : ¬ b = a.take b.length := fun e => h (List.prefix_iff_eq_take.mpr e)
    have h2 : (a.take b.length == b) = false := by
      simp only [beq_eq_false_iff_ne, ne_eq]
      exact fun e => h1 e.symm
    rw [h2, Bool.and_false]
def Apart (a b : List Nat) : Prop := ¬ a <+: b ∧ ¬ b <+: a
theorem Apart.symm {a b : List Nat} (h : Apart a b) : Apart b a := ⟨h.2, h.1⟩
abbrev PF (bs : List (List Nat)) : Prop := bs.Pairwise Apart
structure WdOk (n : Nat) (w : List Nat) : Prop where
  l : ∀ c ∈ w, c ∈ letters.cps.toList
  lo : n ≤ w.length
  hi : w.length ≤ 8
/-- a plain book -/
structure BkOk (bs : List (List Nat)) : Prop where
  pf : PF bs
  all : ∀ w ∈ bs, WdOk 1 w
  l1 : 1 ≤ bs.length
  l20 : bs.length ≤ 20
/-- the ends of a tree -/
structure EnOk (bs : List (List Nat)) : Prop where
  pf : PF bs
  all : ∀ w ∈ bs, WdOk 0 w
  l1 : 1 ≤ bs.length
  l20 : bs.length ≤ 20
theorem EnOk.start : EnOk [[]] := ⟨List.pairwise_singleton _ _, fun w h => by
  have : w = [] := by simpa using h
  subst this
  exact ⟨fun _ h => (nomatch h), Nat.zero_le _, Nat.zero_le _⟩, Nat.le_refl _, by decide⟩
theorem apart_ext {b w : List Nat} {c : Nat} (h : Apart b w) : Apart (b ++ [c]) w := by
  constructor
  · exact fun e => h.1 ((List.prefix_append b [c]).trans e)
  · intro e
    rcases List.prefix_concat_iff.mp e with e | e
    · exact h.1 (by rw [e]; exact List.prefix_append b [c])
    · exact h.2 e
theorem apart_new {b : List Nat} {c d : Nat} (h : c ≠ d) : Apart (b ++ [c]) (b ++ [d]) := by
  have key : ∀ {x y : Nat}, x ≠ y → ¬ (b ++ [x]) <+: (b ++ [y]) := fun {x y} hn e => by
    have := e.eq_of_length (by rw [List.length_append, List.length_append]; rfl)
    have := List.append_cancel_left this
    exact hn (by simpa using this)
  exact ⟨key h, key (Ne.symm h)⟩
theorem EnOk.step {pre post : List (List Nat)} {b : List Nat} {cs : List Nat} (h : EnOk (pre ++ [b] ++ post)) (hb : b.length < 8) (nd : cs.Nodup) (hc : ∀ c ∈ cs, c ∈ letters.cps.toList) (c1 : 1 ≤ cs.length) (hl : pre.length + 1 + post.length + cs.length < 22) :
    EnOk (pre ++ cs.map (fun c => b ++ [c]) ++ post) := by
  obtain ⟨pf, all, l1, l20⟩ := h
  have hp := List.pairwise_append.mp pf
  have hp1 := List.pairwise_append.mp hp.1
  have wb := all b (by simp)
  refine ⟨?_, ?_, ?_, ?_⟩
  · refine List.pairwise_append.mpr ⟨List.pairwise_append.mpr ⟨hp1.1, ?_, ?_⟩, hp.2.1, ?_⟩
    · rw [List.pairwise_map]
      exact (List.nodup_iff_pairwise_ne.mp nd).imp fun e => apart_new e
    · intro x hx y hy
      obtain ⟨c, _, rfl⟩ := List.mem_map.mp hy
      exact (apart_ext (hp1.2.2 x hx b List.mem_cons_self).symm).symm
    · intro x hx y hy
      rcases List.mem_append.mp hx with hx | hx
      · exact hp.2.2 x (List.mem_append_left _ hx) y hy
      · obtain ⟨c, _, rfl⟩ := List.mem_map.mp hx
        exact apart_ext (hp.2.2 b (by simp) y hy)
  · intro w hw
    rcases List.mem_append.mp hw with hw | hw
    · rcases List.mem_append.mp hw with hw | hw
      · exact all w (by simp [hw])
      · obtain ⟨c, hcc, rfl⟩ := List.mem_map.mp hw
        refine ⟨fun x hx => ?_, Nat.zero_le _, ?_⟩
        · rcases List.mem_append.mp hx with hx | hx
          · exact wb.l x hx
          · have : x = c := by simpa using hx
            subst this
            exact hc _ hcc
        · rw [List.length_append]
          show _ + 1 ≤ 8
          omega
    · exact all w (by simp [hw])
  · rw [List.length_append, List.length_append, List.length_map]
    omega
  · rw [List.length_append, List.length_append, List.length_map]
    omega
/-- none is without signs, but where there is no other -/
theorem EnOk.book {bs : List (List Nat)} (h : EnOk bs) (hn : bs ≠ [[]]) : BkOk bs := by
  refine ⟨h.pf, fun w hw => ?_, h.l1, h.l20⟩
  have hw0 := h.all w hw
  refine ⟨hw0.l, ?_, hw0.hi⟩
  cases w with
  | cons c w => exact Nat.succ_le_succ (Nat.zero_le _)
  | nil =>
    exfalso
    obtain ⟨pre, post, e⟩ := List.append_of_mem hw
    have pf := h.pf
    rw [e] at pf
    have h2 := List.pairwise_append.mp pf
    cases post with
    | cons x r =>
      have := (List.pairwise_cons.mp h2.2.1).1 x List.mem_cons_self
      exact this.1 List.nil_prefix
    | nil =>
      cases pre with
      | nil => exact hn e
      | cons x r =>
        have := h2.2.2 x List.mem_cons_self [] List.mem_cons_self
        exact this.2 List.nil_prefix
theorem BkOk.perm {bs cs : List (List Nat)} (h : BkOk bs) (p : bs.Perm cs) : BkOk cs :=
  ⟨(p.pairwise_iff (fun h => h.symm)).mp h.pf, fun w hw => h.all w (p.mem_iff.mpr hw), by rw [← p.length_eq]; exact h.l1, by rw [← p.length_eq]; exact h.l20⟩
/-- letters by shift and step -/
def lettB (s st j : Nat) : Nat := letN ((s + st * j) % 26)
theorem lettB_nodup {s st n : Nat} (hst : st = 1 ∨ st = 3 ∨ st = 5 ∨ st = 7) (hn : n ≤ 8) : ((List.range n).map (lettB s st)).Nodup := by
  have inj : ∀ a < 26, ∀ b < 26, letN a = letN b → a = b := by decide +kernel
  rw [List.nodup_iff_pairwise_ne, List.pairwise_map]
  refine List.Pairwise.imp_of_mem ?_ (List.nodup_iff_pairwise_ne.mp List.nodup_range)
  intro a b ha hb hne e
  have ha := List.mem_range.mp ha
  have hb := List.mem_range.mp hb
  have := inj _ (Nat.mod_lt _ (by decide)) _ (Nat.mod_lt _ (by decide)) e
  rcases hst with rfl | rfl | rfl | rfl <;> omega
theorem lettB_mem {s st j : Nat} : lettB s st j ∈ letters.cps.toList := letN_mem (Nat.mod_lt _ (by decide))
/-! ### what look_at_plain asks -/
def bkD (bs : List (List Nat)) : D := .lst (bs.map fun w => .str (txt w))
def strOf : D → Str
  | .str z => z
  | _ => ""
/-- some text begins another one -/
def pfB (zs : List Str) : Bool := (List.range zs.length).all fun i => (List.range zs.length).all fun j => decide (i = j) || !Txt.startswith (zs.getD j "") (zs.getD i "")
def plainOk : D → Bool
  | .lst ds => decide (1 ≤ ds.length ∧ ds.length ≤ 20) && ds.all isNm && pfB (ds.map strOf)
  | _ => false
theorem PF.not_prefix {bs : List (List Nat)} (h : PF bs) {i j : Nat} {a b : List Nat} (ha : bs[i]? = some a) (hb : bs[j]? = some b) (hn : i ≠ j) : ¬ a <+: b := by
  have key : ∀ {i j : Nat} {a b : List Nat}, bs[i]? = some a → bs[j]? = some b → i < j → Apart a b := fun {i j a b} ha hb hlt => by
    obtain ⟨h1, e1⟩ := List.getElem?_eq_some_iff.mp ha
    obtain ⟨h2, e2⟩ := List.getElem?_eq_some_iff.mp hb
    have := List.pairwise_iff_getElem.mp h i j h1 h2 hlt
    rw [e1, e2] at this
    exact this
  by_cases hlt : i < j
  · exact (key ha hb hlt).1
  · exact (key hb ha (by omega)).2
theorem BkOk.plain {bs : List (List Nat)} (h : BkOk bs) : plainOk (bkD bs) = true := by
  have e : (bs.map fun w => D.str (txt w)).map strOf = bs.map txt := by
    rw [List.map_map]
    rfl
  show (decide (1 ≤ (bs.map fun w => D.str (txt w)).length ∧ (bs.map fun w => D.str (txt w)).length ≤ 20) && (bs.map fun w => D.str (txt w)).all isNm && pfB ((bs.map fun w => D.str (txt w)).map strOf)) = true
  rw [e, List.length_map, decide_eq_true ⟨h.l1, h.l20⟩, Bool.true_and, Bool.and_eq_true]
  constructor
  · rw [List.all_eq_true]
    intro d hd
    obtain ⟨w, hw, rfl⟩ := List.mem_map.mp hd
    have := h.all w hw
    exact nm_txt this.l this.lo this.hi
  · unfold pfB
    rw [List.all_eq_true]
    intro i hi
    rw [List.all_eq_true]
    intro j hj
    have hi := List.mem_range.mp hi
    have hj := List.mem_range.mp hj
    rw [List.length_map] at hi hj
    by_cases e : i = j
    · rw [decide_eq_true e]
      rfl
    · have ei : (bs.map txt).getD i "" = txt bs[i] := by
        rw [List.getD_eq_getElem?_getD, List.getElem?_map, List.getElem?_eq_getElem hi]
        rfl
      have ej : (bs.map txt).getD j "" = txt bs[j] := by
        rw [List.getD_eq_getElem?_getD, List.getElem?_map, List.getElem?_eq_getElem hj]
        rfl
      rw [ei, ej, starts_txt, decide_eq_false (h.pf.not_prefix (List.getElem?_eq_getElem hi) (List.getElem?_eq_getElem hj) e)]
      simp
theorem BkOk.ok {bs : List (List Nat)} (h : BkOk bs) : Ok (bkD bs) ∧ NoD (bkD bs) ∧ dep (bkD bs) ≤ 64 := by
  have all := h.all
  clear h
  refine ⟨?_, ?_, ?_⟩
  · show OkAll (bs.map fun w => .str (txt w))
    induction bs with
    | nil => trivial
    | cons w r ih =>
      have hw := all w List.mem_cons_self
      refine ⟨⟨by rw [txt_length]; have := hw.hi; omega, fun c hc => by rw [txt_list] at hc; exact in_letters_asc (hw.l c hc)⟩, ih fun x hx => all x (List.mem_cons_of_mem _ hx)⟩
  · refine noAll_of fun d hd => ?_
    obtain ⟨w, hw, rfl⟩ := List.mem_map.mp hd
    trivial
  · have := depAll_le (ds := bs.map fun w => D.str (txt w)) (n := 0) fun d hd => by
      obtain ⟨w, hw, rfl⟩ := List.mem_map.mp hd
      exact Nat.le_refl _
    show depAll (bs.map fun w => D.str (txt w)) + 1 ≤ 64
    omega
/-- texts of a list of code points, as values -/
def vsT (bs : List (List Nat)) : List V := bs.map fun w => V.str (txt w)
theorem dt_vsT {H : Hp} : ∀ bs : List (List Nat), DtAll H (vsT bs) (bs.map fun w => D.str (txt w))
  | [] => .nil
  | _ :: bs => .cons (.str _) (dt_vsT bs)
theorem vsT_get {bs : List (List Nat)} {i : Nat} {v : V} (h : (vsT bs)[i]? = some v) : ∃ w, bs[i]? = some w ∧ v = .str (txt w) := by
  unfold vsT at h
  rw [List.getElem?_map] at h
  cases e : bs[i]? with
  | none =>
    rw [e] at h
    cases h
  | some w =>
    rw [e] at h
    exact ⟨w, rfl, (Option.some.inj h).symm⟩
end Dear

namespace Dear
open PySem PySem.Spec PyProof.Rows L2
/-! ### texts put together -/
def MkS (σ : L2.St) (t : TE) (H : Hp) (l : List Nat) : Prop := l.length ≤ 1000 → ∀ H1, Same H H1 → ∀ Q : VK, Q (.str (txt l)) H1 → t σ H1 Q
section
variable {σ : L2.St} {H : Hp}
theorem mks_c {z : Str} {l : List Nat} (h : z = txt l) : MkS σ (tC (.str z)) H l := fun _ H1 _ Q q => by
  subst h
  exact q
theorem mks_var {i : Nat} {l : List Nat} (e : σ[i]? = some (some (.str (txt l)))) : MkS σ (tVar i) H l := fun _ H1 _ Q q => ⟨_, e, q⟩
theorem mks_add {t u : TE} {a b : List Nat} (h1 : MkS σ t H a) (h2 : MkS σ u H b) : MkS σ (tOp (fun x y H Q => ∃ i j, x = .str i ∧ y = .str j ∧ i.length + j.length ≤ sizeLine ∧ Q (.str (i ++ j)) H) t u) H (a ++ b) := fun hl H1 s Q q => by
  rw [List.length_append] at hl
  refine h1 (by omega) H1 s _ (h2 (by omega) H1 s _ ⟨_, _, rfl, rfl, sz_lit (by rw [txt_length, txt_length]; exact hl), ?_⟩)
  rw [txt_app]
  exact q
theorem mks_rep {z : Str} {l : List Nat} {n : Nat} (h : z = txt l) (hn : n ≤ 1000) (hl : l.length ≤ 1000) : MkS σ (tOp rRepS (tC (.str z)) (tC (.int (n : Nat)))) H (repT l n) := fun _ H1 _ Q q => by
  subst h
  exact ⟨l, n, rfl, rfl, by omega, by omega, hl, q⟩
theorem mks_str {t : TA} {n : Nat} (hn : n < 2 ^ 250) (h : ∀ H1, Same H H1 → ∀ Q : List V → Hp → Prop, Q [.int (n : Nat)] H1 → t σ H1 Q) : MkS σ (tCB (fun xs H Q => ∃ i, xs = [.int i] ∧ i.natAbs.log2 < 1920 ∧ Q (.str (toString i)) H) t) H (figL n) := fun _ H1 s Q q => by
  refine h H1 s _ ⟨_, rfl, ?_, ?_⟩
  · rw [Int.natAbs_natCast]
    exact Nat.lt_of_lt_of_le (PySem.Flt.log2_lt_of (by decide) hn) (by decide)
  · have e := str_num n
    rw [show (toString (n : Int) : Str) = txt (figL n) from e]
    exact q
theorem MkS.go {r : R2} {t u : TE} {l : List Nat} (h : MkS σ (tOp r t u) H l) (hl : l.length ≤ 1000) {Q : VK} (q : Q (.str (txt l)) H) : tOp r t u σ H Q := h hl H (Same.refl H) Q q
theorem mkn_s {t : TE} {l : List Nat} (hl : l.length ≤ 1000) (h : MkS σ t H l) : MkN σ t H (.str (txt l)) := fun H1 s Q q => h hl H1 s Q (q _ H1 (Same.refl _) (.str _))
/-- a display of texts -/
def MkSA (σ : L2.St) (t : TA) (H : Hp) (ls : List (List Nat)) : Prop := (∀ l ∈ ls, l.length ≤ 1000) → ∀ H1, Same H H1 → ∀ Q : List V → Hp → Prop, Q (vsT ls) H1 → t σ H1 Q
theorem mksa_nil : MkSA σ tNil H [] := fun _ H1 _ Q q => q
theorem mksa_cons {t : TE} {u : TA} {l : List Nat} {ls : List (List Nat)} (h1 : MkS σ t H l) (h2 : MkSA σ u H ls) : MkSA σ (tCons t u) H (l :: ls) := fun hl H1 s Q q => h1 (hl l List.mem_cons_self) H1 s _ (h2 (fun x hx => hl x (List.mem_cons_of_mem _ hx)) H1 s _ q)
theorem MkSA.go {u : TA} {ls : List (List Nat)} (h : MkSA σ u H ls) (hl : ∀ l ∈ ls, l.length ≤ 1000) {Q : List V → Hp → Prop} (q : Q (vsT ls) H) : u σ H Q := h hl H (Same.refl H) _ q
theorem lst_after {ls : List (List Nat)} (hn : ls.length ≤ 1000) {Q : VK} (q : ∀ p H', H p = none → Same H H' → H' p = some (.lst (vsT ls)) → Q (.ref p) H') : (vsT ls).length ≤ sizeLine ∧ ∀ p, H p = none → Q (.ref p) (upd H p (.lst (vsT ls))) :=
  ⟨sz_lit (by show (List.map _ ls).length ≤ 1000; rw [List.length_map]; exact hn), fun p hp => q p _ hp (Same.upd hp) upd_same⟩
theorem s_cat {u : TA} {i : Nat} {a : Addr} (e : σ[i]? = some (some (.ref a))) {Q : VK} (h : u σ H fun vs H' => vs.length ≤ sizeLine ∧ ∀ p, H' p = none → rCat (.ref a) (.ref p) (upd H' p (.lst vs)) Q) : tOp rCat (tVar i) (tLst u) σ H Q := ⟨_, e, h⟩
/-- put behind a list of texts -/
theorem cat_after {a : Addr} {ks ls : List (List Nat)} (ha : H a = some (.lst (vsT ks))) (hn : ks.length + ls.length ≤ 1000) {Q : VK}
    (q : ∀ p H', H p = none → Same H H' → H' p = some (.lst (vsT (ks ++ ls))) → Q (.ref p) H') : (vsT ls).length ≤ sizeLine ∧ ∀ p, H p = none → rCat (.ref a) (.ref p) (upd H p (.lst (vsT ls))) Q :=
  lst_after (Q := fun v H' => rCat (.ref a) v H' Q) (by omega) fun p H1 hp u1 e1 => by
  refine ⟨a, p, _, _, rfl, rfl, u1 _ _ ha, e1, sz_lit (by show (List.map _ ks).length + (List.map _ ls).length ≤ 1000; rw [List.length_map, List.length_map]; exact hn), fun r hr => ?_⟩
  refine q r _ (same_none u1 hr) (u1.trans (Same.upd hr)) ?_
  rw [upd_same]
  unfold vsT
  rw [List.map_append]
theorem MkSA.lst {u : TA} {ls : List (List Nat)} (h : MkSA σ u H ls) (hl : ∀ l ∈ ls, l.length ≤ 1000) (hn : ls.length ≤ 1000) {Q : VK} (q : ∀ p H', H p = none → Same H H' → H' p = some (.lst (vsT ls)) → Q (.ref p) H') : tLst u σ H Q := h.go hl (lst_after hn q)
theorem MkSA.cat {u : TA} {i : Nat} {a : Addr} {ks ls : List (List Nat)} (h : MkSA σ u H ls) (e : σ[i]? = some (some (.ref a))) (ha : H a = some (.lst (vsT ks))) (hl : ∀ l ∈ ls, l.length ≤ 1000) (hn : ks.length + ls.length ≤ 1000) {Q : VK}
    (q : ∀ p H', H p = none → Same H H' → H' p = some (.lst (vsT (ks ++ ls))) → Q (.ref p) H') : tOp rCat (tVar i) (tLst u) σ H Q := s_cat e (h.go hl (cat_after ha hn q))
end
end Dear

namespace Dear
open PySem PySem.Spec PyProof.Rows L2
def top (i : Nat) : Stmt := PySem.Challenge.pw_dearsigns_k62_fractions_refused.main.body.getD i (.Pass ⟨0, 0, 0, 0⟩)
abbrev s_NoTongue___init__ : Stmt := inClass (top 11) 0
abbrev s_NoWants___init__ : Stmt := inClass (top 12) 0
abbrev s_NoThing___init__ : Stmt := inClass (top 13) 0
abbrev s_BadSign___init__ : Stmt := inClass (top 14) 0
abbrev s_NoText___init__ : Stmt := inClass (top 15) 0
abbrev s_is_whole : Stmt := top 17
abbrev s_divisor : Stmt := top 18
abbrev s_lowest : Stmt := top 19
abbrev s_fraction : Stmt := top 20
abbrev s_whole_in : Stmt := top 24
abbrev s_fraction_in : Stmt := top 25
abbrev s_read_fraction : Stmt := top 26
abbrev s__law_pool : Stmt := top 28
abbrev s__law_take : Stmt := top 29
abbrev s__law_low : Stmt := top 30
abbrev s__law_great : Stmt := top 31
abbrev s__law_odd : Stmt := top 32
abbrev s__law_is_refused : Stmt := top 33
abbrev s_law : Stmt := top 34
abbrev n_NoTongue___init__ : List Str := ["self", "part"]
theorem c_NoTongue___init__ : FnScope n_NoTongue___init__ ["self", "part"] (defScope s_NoTongue___init__) := ⟨rfl, rfl, rfl, by decide +kernel, rfl, by decide +kernel, by decide +kernel⟩
abbrev n_NoWants___init__ : List Str := ["self", "number"]
theorem c_NoWants___init__ : FnScope n_NoWants___init__ ["self", "number"] (defScope s_NoWants___init__) := ⟨rfl, rfl, rfl, by decide +kernel, rfl, by decide +kernel, by decide +kernel⟩
abbrev n_NoThing___init__ : List Str := ["self", "place"]
theorem c_NoThing___init__ : FnScope n_NoThing___init__ ["self", "place"] (defScope s_NoThing___init__) := ⟨rfl, rfl, rfl, by decide +kernel, rfl, by decide +kernel, by decide +kernel⟩
abbrev n_BadSign___init__ : List Str := ["self", "place"]
theorem c_BadSign___init__ : FnScope n_BadSign___init__ ["self", "place"] (defScope s_BadSign___init__) := ⟨rfl, rfl, rfl, by decide +kernel, rfl, by decide +kernel, by decide +kernel⟩
abbrev n_NoText___init__ : List Str := ["self", "row"]
theorem c_NoText___init__ : FnScope n_NoText___init__ ["self", "row"] (defScope s_NoText___init__) := ⟨rfl, rfl, rfl, by decide +kernel, rfl, by decide +kernel, by decide +kernel⟩
abbrev n_is_whole : List Str := ["thing"]
theorem c_is_whole : FnScope n_is_whole ["thing"] (defScope s_is_whole) := ⟨rfl, rfl, rfl, by decide +kernel, rfl, by decide +kernel, by decide +kernel⟩
abbrev n_divisor : List Str := ["one", "other"]
theorem c_divisor : FnScope n_divisor ["one", "other"] (defScope s_divisor) := ⟨rfl, rfl, rfl, by decide +kernel, rfl, by decide +kernel, by decide +kernel⟩
abbrev n_lowest : List Str := ["top", "bottom", "share"]
theorem c_lowest : FnScope n_lowest ["top", "bottom"] (defScope s_lowest) := ⟨rfl, rfl, rfl, by decide +kernel, rfl, by decide +kernel, by decide +kernel⟩
abbrev n_fraction : List Str := ["top", "bottom"]
theorem c_fraction : FnScope n_fraction ["top", "bottom"] (defScope s_fraction) := ⟨rfl, rfl, rfl, by decide +kernel, rfl, by decide +kernel, by decide +kernel⟩
abbrev n_whole_in : List Str := ["word", "most", "sign"]
theorem c_whole_in : FnScope n_whole_in ["word", "most"] (defScope s_whole_in) := ⟨rfl, rfl, rfl, by decide +kernel, rfl, by decide +kernel, by decide +kernel⟩
abbrev n_fraction_in : List Str := ["word", "most", "figures", "numbers", "one", "part"]
theorem c_fraction_in : FnScope n_fraction_in ["word", "most"] (defScope s_fraction_in) := ⟨rfl, rfl, rfl, by decide +kernel, rfl, by decide +kernel, by decide +kernel⟩
abbrev n_read_fraction : List Str := ["text", "one"]
theorem c_read_fraction : FnScope n_read_fraction ["text"] (defScope s_read_fraction) := ⟨rfl, rfl, rfl, by decide +kernel, rfl, by decide +kernel, by decide +kernel⟩
abbrev n__law_pool : List Str := ["_law_script", "_law_k", "_law_cell", "_law_seed"]
theorem c__law_pool : FnScope n__law_pool ["_law_script", "_law_k"] (defScope s__law_pool) := ⟨rfl, rfl, rfl, by decide +kernel, rfl, by decide +kernel, by decide +kernel⟩
abbrev n__law_take : List Str := ["_law_pool_here", "_law_many", "_law_found"]
theorem c__law_take : FnScope n__law_take ["_law_pool_here", "_law_many"] (defScope s__law_take) := ⟨rfl, rfl, rfl, by decide +kernel, rfl, by decide +kernel, by decide +kernel⟩
abbrev n__law_low : List Str := ["_law_top", "_law_bottom", "_law_one", "_law_other"]
theorem c__law_low : FnScope n__law_low ["_law_top", "_law_bottom"] (defScope s__law_low) := ⟨rfl, rfl, rfl, by decide +kernel, rfl, by decide +kernel, by decide +kernel⟩
abbrev n__law_great : List Str := ["_law_pool_here", "_law_found", "_law_k"]
theorem c__law_great : FnScope n__law_great ["_law_pool_here"] (defScope s__law_great) := ⟨rfl, rfl, rfl, by decide +kernel, rfl, by decide +kernel, by decide +kernel⟩
abbrev n__law_odd : List Str := ["_law_pool_here", "_law_one", "_law_top", "_law_bottom", "_law_both", "_law_some"]
theorem c__law_odd : FnScope n__law_odd ["_law_pool_here", "_law_one"] (defScope s__law_odd) := ⟨rfl, rfl, rfl, by decide +kernel, rfl, by decide +kernel, by decide +kernel⟩
abbrev n__law_is_refused : List Str := ["_law_thing", "_law_error", "e"]
theorem c__law_is_refused : FnScope n__law_is_refused ["_law_thing"] (defScope s__law_is_refused) := ⟨rfl, rfl, rfl, by decide +kernel, rfl, by decide +kernel, by decide +kernel⟩
abbrev n_law : List Str := ["_law_script", "_law_k", "_law_pool_here", "_law_top", "_law_bottom", "_law_thing", "_law_one", "_law_text"]
theorem c_law : FnScope n_law ["_law_script"] (defScope s_law) := ⟨rfl, rfl, rfl, by decide +kernel, rfl, by decide +kernel, by decide +kernel⟩
structure Ads where
  DearError : Addr
  NoNumber : Addr
  NoBook : Addr
  NoTree : Addr
  TooMany : Addr
  NoCount : Addr
  NoUndo : Addr
  NoTurn : Addr
  NoRow : Addr
  Unknown : Addr
  NoTongue : Addr
  NoWants : Addr
  NoThing : Addr
  BadSign : Addr
  NoText : Addr
/-- what the top has left -/
structure Txt (K : PySem.W.Frag) (mg : Str → Option Value) where
  A : Ads
  C_DearError : mg "DearError" = some (.ref A.DearError)
  C_NoNumber : mg "NoNumber" = some (.ref A.NoNumber)
  C_NoBook : mg "NoBook" = some (.ref A.NoBook)
  C_NoTree : mg "NoTree" = some (.ref A.NoTree)
  C_TooMany : mg "TooMany" = some (.ref A.TooMany)
  C_NoCount : mg "NoCount" = some (.ref A.NoCount)
  C_NoUndo : mg "NoUndo" = some (.ref A.NoUndo)
  C_NoTurn : mg "NoTurn" = some (.ref A.NoTurn)
  C_NoRow : mg "NoRow" = some (.ref A.NoRow)
  C_Unknown : mg "Unknown" = some (.ref A.Unknown)
  C_NoTongue : mg "NoTongue" = some (.ref A.NoTongue)
  C_NoWants : mg "NoWants" = some (.ref A.NoWants)
  C_NoThing : mg "NoThing" = some (.ref A.NoThing)
  C_BadSign : mg "BadSign" = some (.ref A.BadSign)
  C_NoText : mg "NoText" = some (.ref A.NoText)
  X_NoNumber : ExOwn K mg "NoNumber" A.NoNumber
  D_DearError : DrI K mg "DearError" A.DearError
  X_NoText : ExInit K mg "NoText" "row" A.NoText
  F_NoText : DfI K A.NoText "NoText.__init__" s_NoText___init__ "row"
  q_NoNumber_DearError : PySem.W.kitOne K (.ref A.NoNumber) (.ref A.DearError) = some true
  q_NoNumber_NoNumber : PySem.W.kitOne K (.ref A.NoNumber) (.ref A.NoNumber) = some true
  q_NoNumber_NoBook : PySem.W.kitOne K (.ref A.NoNumber) (.ref A.NoBook) = some false
  q_NoNumber_NoTree : PySem.W.kitOne K (.ref A.NoNumber) (.ref A.NoTree) = some false
  q_NoNumber_TooMany : PySem.W.kitOne K (.ref A.NoNumber) (.ref A.TooMany) = some false
  q_NoNumber_NoCount : PySem.W.kitOne K (.ref A.NoNumber) (.ref A.NoCount) = some false
  q_NoNumber_NoUndo : PySem.W.kitOne K (.ref A.NoNumber) (.ref A.NoUndo) = some false
  q_NoNumber_NoTurn : PySem.W.kitOne K (.ref A.NoNumber) (.ref A.NoTurn) = some false
  q_NoNumber_NoRow : PySem.W.kitOne K (.ref A.NoNumber) (.ref A.NoRow) = some false
  q_NoNumber_Unknown : PySem.W.kitOne K (.ref A.NoNumber) (.ref A.Unknown) = some false
  q_NoNumber_NoTongue : PySem.W.kitOne K (.ref A.NoNumber) (.ref A.NoTongue) = some false
  q_NoNumber_NoWants : PySem.W.kitOne K (.ref A.NoNumber) (.ref A.NoWants) = some false
  q_NoNumber_NoThing : PySem.W.kitOne K (.ref A.NoNumber) (.ref A.NoThing) = some false
  q_NoNumber_BadSign : PySem.W.kitOne K (.ref A.NoNumber) (.ref A.BadSign) = some false
  q_NoNumber_NoText : PySem.W.kitOne K (.ref A.NoNumber) (.ref A.NoText) = some false
  q_NoNumber_ValueError : PySem.W.kitOne K (.ref A.NoNumber) (.type "ValueError") = some true
  m_NoNumber : PySem.W.exmOne K (.ref A.NoNumber) (.ref A.DearError) = some true
  q_NoText_DearError : PySem.W.kitOne K (.ref A.NoText) (.ref A.DearError) = some true
  q_NoText_NoNumber : PySem.W.kitOne K (.ref A.NoText) (.ref A.NoNumber) = some false
  q_NoText_NoBook : PySem.W.kitOne K (.ref A.NoText) (.ref A.NoBook) = some false
  q_NoText_NoTree : PySem.W.kitOne K (.ref A.NoText) (.ref A.NoTree) = some false
  q_NoText_TooMany : PySem.W.kitOne K (.ref A.NoText) (.ref A.TooMany) = some false
  q_NoText_NoCount : PySem.W.kitOne K (.ref A.NoText) (.ref A.NoCount) = some false
  q_NoText_NoUndo : PySem.W.kitOne K (.ref A.NoText) (.ref A.NoUndo) = some false
  q_NoText_NoTurn : PySem.W.kitOne K (.ref A.NoText) (.ref A.NoTurn) = some false
  q_NoText_NoRow : PySem.W.kitOne K (.ref A.NoText) (.ref A.NoRow) = some false
  q_NoText_Unknown : PySem.W.kitOne K (.ref A.NoText) (.ref A.Unknown) = some false
  q_NoText_NoTongue : PySem.W.kitOne K (.ref A.NoText) (.ref A.NoTongue) = some false
  q_NoText_NoWants : PySem.W.kitOne K (.ref A.NoText) (.ref A.NoWants) = some false
  q_NoText_NoThing : PySem.W.kitOne K (.ref A.NoText) (.ref A.NoThing) = some false
  q_NoText_BadSign : PySem.W.kitOne K (.ref A.NoText) (.ref A.BadSign) = some false
  q_NoText_NoText : PySem.W.kitOne K (.ref A.NoText) (.ref A.NoText) = some true
  q_NoText_ValueError : PySem.W.kitOne K (.ref A.NoText) (.type "ValueError") = some true
  m_NoText : PySem.W.exmOne K (.ref A.NoText) (.ref A.DearError) = some true
  f_is_whole : Df K mg "is_whole" s_is_whole ["thing"]
  f_divisor : Df K mg "divisor" s_divisor ["one", "other"]
  f_lowest : Df K mg "lowest" s_lowest ["top", "bottom"]
  f_fraction : DfD K mg "fraction" s_fraction ["top", "bottom"] [.int 1]
  f_whole_in : Df K mg "whole_in" s_whole_in ["word", "most"]
  f_fraction_in : Df K mg "fraction_in" s_fraction_in ["word", "most"]
  f_read_fraction : Df K mg "read_fraction" s_read_fraction ["text"]
  f__law_pool : Df K mg "_law_pool" s__law_pool ["_law_script", "_law_k"]
  f__law_take : Df K mg "_law_take" s__law_take ["_law_pool_here", "_law_many"]
  f__law_low : Df K mg "_law_low" s__law_low ["_law_top", "_law_bottom"]
  f__law_great : Df K mg "_law_great" s__law_great ["_law_pool_here"]
  f__law_odd : Df K mg "_law_odd" s__law_odd ["_law_pool_here", "_law_one"]
  f__law_is_refused : Df K mg "_law_is_refused" s__law_is_refused ["_law_thing"]
  f_law : Df K mg "law" s_law ["_law_script"]
  g_FIGURES : ∃ t, mg "FIGURES" = some (.str "0123456789" t)
  g_MOST_FIGURES : ∃ t, mg "MOST_FIGURES" = some (.int 60 t)
  b_ValueError : mg "ValueError" = none
  b_abs : mg "abs" = none
  b_all : mg "all" = none
  b_bool : mg "bool" = none
  b_int : mg "int" = none
  b_isinstance : mg "isinstance" = none
  b_len : mg "len" = none
  b_max : mg "max" = none
  b_min : mg "min" = none
  b_range : mg "range" = none
  b_str : mg "str" = none
def txt_mk {K : PySem.W.Frag} {h : Heap} {mg : Str → Option Value} (X : K.In h) (G : h.Ns mainGlobals mg)
    {C_DearError : Addr} {C_NoNumber : Addr} {C_NoBook : Addr} {C_NoTree : Addr} {C_TooMany : Addr} {C_NoCount : Addr} {C_NoUndo : Addr} {C_NoTurn : Addr} {C_NoRow : Addr} {C_Unknown : Addr} {C_NoTongue : Addr} {C_NoWants : Addr} {C_NoThing : Addr} {C_BadSign : Addr} {C_NoText : Addr} 
    {nm_NoText qn_NoText : Str} {N_NoText I_NoText : Addr} {bs_NoText sb_NoText : List Value} {sn_NoText : List Str} {ab_NoText : Bool} {col_NoText : Option Bool} {dd_NoText odI_NoText anI_NoText : Option Addr} {m0_NoText m1_NoText m2_NoText m3_NoText m5_NoText : Option Value} {slI_NoText : Array (Option Value)} {ocI_NoText kVI_NoText dcI_NoText pmI_NoText cdI_NoText ctI_NoText : Value}
    {f1 : Addr} {od1 an1 : Option Addr} {sl1 : Array (Option Value)} {oc1 kV1 dc1 pm1 cd1 ct1 : Value}
    {f2 : Addr} {od2 an2 : Option Addr} {sl2 : Array (Option Value)} {oc2 kV2 dc2 pm2 cd2 ct2 : Value}
    {f3 : Addr} {od3 an3 : Option Addr} {sl3 : Array (Option Value)} {oc3 kV3 dc3 pm3 cd3 ct3 : Value}
    {f4 T4 : Addr} {od4 an4 oD4 : Option Addr} {sl4 sD4 : Array (Option Value)} {oc4 kV4 dc4 pm4 cd4 ct4 oC4 : Value} {n4 : Nat} {u4_0 : Tok}
    {f5 : Addr} {od5 an5 : Option Addr} {sl5 : Array (Option Value)} {oc5 kV5 dc5 pm5 cd5 ct5 : Value}
    {f6 : Addr} {od6 an6 : Option Addr} {sl6 : Array (Option Value)} {oc6 kV6 dc6 pm6 cd6 ct6 : Value}
    {f7 : Addr} {od7 an7 : Option Addr} {sl7 : Array (Option Value)} {oc7 kV7 dc7 pm7 cd7 ct7 : Value}
    {f8 : Addr} {od8 an8 : Option Addr} {sl8 : Array (Option Value)} {oc8 kV8 dc8 pm8 cd8 ct8 : Value}
    {f9 : Addr} {od9 an9 : Option Addr} {sl9 : Array (Option Value)} {oc9 kV9 dc9 pm9 cd9 ct9 : Value}
    {f10 : Addr} {od10 an10 : Option Addr} {sl10 : Array (Option Value)} {oc10 kV10 dc10 pm10 cd10 ct10 : Value}
    {f11 : Addr} {od11 an11 : Option Addr} {sl11 : Array (Option Value)} {oc11 kV11 dc11 pm11 cd11 ct11 : Value}
    {f12 : Addr} {od12 an12 : Option Addr} {sl12 : Array (Option Value)} {oc12 kV12 dc12 pm12 cd12 ct12 : Value}
    {f13 : Addr} {od13 an13 : Option Addr} {sl13 : Array (Option Value)} {oc13 kV13 dc13 pm13 cd13 ct13 : Value}
    {f14 : Addr} {od14 an14 : Option Addr} {sl14 : Array (Option Value)} {oc14 kV14 dc14 pm14 cd14 ct14 : Value}
    {t15 : Tok}
    {t16 : Tok}
    (g_DearError : PySem.W.nsIn K mainGlobals "DearError" = some (some (.ref C_DearError)))
    (i_DearError : PySem.W.isClsIn K C_DearError = true) (t_DearError : PySem.W.typeIn K (.ref C_DearError) = some (.type "type"))
    (g_NoNumber : PySem.W.nsIn K mainGlobals "NoNumber" = some (some (.ref C_NoNumber)))
    (i_NoNumber : PySem.W.isClsIn K C_NoNumber = true) (t_NoNumber : PySem.W.typeIn K (.ref C_NoNumber) = some (.type "type"))
    (g_NoBook : PySem.W.nsIn K mainGlobals "NoBook" = some (some (.ref C_NoBook)))
    (i_NoBook : PySem.W.isClsIn K C_NoBook = true) (t_NoBook : PySem.W.typeIn K (.ref C_NoBook) = some (.type "type"))
    (g_NoTree : PySem.W.nsIn K mainGlobals "NoTree" = some (some (.ref C_NoTree)))
    (i_NoTree : PySem.W.isClsIn K C_NoTree = true) (t_NoTree : PySem.W.typeIn K (.ref C_NoTree) = some (.type "type"))
    (g_TooMany : PySem.W.nsIn K mainGlobals "TooMany" = some (some (.ref C_TooMany)))
    (i_TooMany : PySem.W.isClsIn K C_TooMany = true) (t_TooMany : PySem.W.typeIn K (.ref C_TooMany) = some (.type "type"))
    (g_NoCount : PySem.W.nsIn K mainGlobals "NoCount" = some (some (.ref C_NoCount)))
    (i_NoCount : PySem.W.isClsIn K C_NoCount = true) (t_NoCount : PySem.W.typeIn K (.ref C_NoCount) = some (.type "type"))
    (g_NoUndo : PySem.W.nsIn K mainGlobals "NoUndo" = some (some (.ref C_NoUndo)))
    (i_NoUndo : PySem.W.isClsIn K C_NoUndo = true) (t_NoUndo : PySem.W.typeIn K (.ref C_NoUndo) = some (.type "type"))
    (g_NoTurn : PySem.W.nsIn K mainGlobals "NoTurn" = some (some (.ref C_NoTurn)))
    (i_NoTurn : PySem.W.isClsIn K C_NoTurn = true) (t_NoTurn : PySem.W.typeIn K (.ref C_NoTurn) = some (.type "type"))
    (g_NoRow : PySem.W.nsIn K mainGlobals "NoRow" = some (some (.ref C_NoRow)))
    (i_NoRow : PySem.W.isClsIn K C_NoRow = true) (t_NoRow : PySem.W.typeIn K (.ref C_NoRow) = some (.type "type"))
    (g_Unknown : PySem.W.nsIn K mainGlobals "Unknown" = some (some (.ref C_Unknown)))
    (i_Unknown : PySem.W.isClsIn K C_Unknown = true) (t_Unknown : PySem.W.typeIn K (.ref C_Unknown) = some (.type "type"))
    (g_NoTongue : PySem.W.nsIn K mainGlobals "NoTongue" = some (some (.ref C_NoTongue)))
    (i_NoTongue : PySem.W.isClsIn K C_NoTongue = true) (t_NoTongue : PySem.W.typeIn K (.ref C_NoTongue) = some (.type "type"))
    (g_NoWants : PySem.W.nsIn K mainGlobals "NoWants" = some (some (.ref C_NoWants)))
    (i_NoWants : PySem.W.isClsIn K C_NoWants = true) (t_NoWants : PySem.W.typeIn K (.ref C_NoWants) = some (.type "type"))
    (g_NoThing : PySem.W.nsIn K mainGlobals "NoThing" = some (some (.ref C_NoThing)))
    (i_NoThing : PySem.W.isClsIn K C_NoThing = true) (t_NoThing : PySem.W.typeIn K (.ref C_NoThing) = some (.type "type"))
    (g_BadSign : PySem.W.nsIn K mainGlobals "BadSign" = some (some (.ref C_BadSign)))
    (i_BadSign : PySem.W.isClsIn K C_BadSign = true) (t_BadSign : PySem.W.typeIn K (.ref C_BadSign) = some (.type "type"))
    (g_NoText : PySem.W.nsIn K mainGlobals "NoText" = some (some (.ref C_NoText)))
    (i_NoText : PySem.W.isClsIn K C_NoText = true) (t_NoText : PySem.W.typeIn K (.ref C_NoText) = some (.type "type"))
    (b_DearError : PySem.W.subIn K (.ref C_DearError) (.type "BaseException") = some true)
    (x1_NoNumber : PySem.W.excIn K C_NoNumber [.type "ValueError", .type "Exception", .type "BaseException", .type "object"] "ValueError.__new__" = true)
    (x2_NoNumber : PySem.W.keepIn K (.ref C_NoNumber) = true)
    (x3_NoNumber : PySem.W.subIn K (.ref C_NoNumber) (.type "BaseException") = some true)
    (x4_NoNumber : PySem.W.typeIn K (.ref C_NoNumber) = some (.type "type"))
    (x5_NoNumber : PySem.W.findIn K (.ref C_NoNumber) "__getattribute__" = some (some (.builtin "BaseException.__getattribute__")))
    (x6_NoNumber : PySem.W.findIn K (.ref C_NoNumber) "__getattr__" = some none)
    (x7_NoNumber : PySem.W.hasDictIn K C_NoNumber = true)
    (x8_NoNumber : PySem.W.findIn K (.ref C_NoNumber) "__class__" = some (some (.builtin "object.__class__")))
    (x9_NoNumber : PySem.W.specialIn K (.builtin "object.__class__") "__get__" = some (some (.builtin "getset_descriptor.__get__")))
    (x10_NoNumber : PySem.W.takesIn K (.builtin "object.__class__") = some true)
    (x11_NoNumber : PySem.W.mroIn K C_NoNumber (.type "object") = some true)
    (d1 : PySem.W.specialIn K (.ref C_DearError) "__getattribute__" = some (some (.builtin "type.__getattribute__")))
    (d2 : PySem.W.readsIn K C_DearError (.type "type") = true)
    (d3 : PySem.W.findCls K (.ref C_DearError) (.type "type") "__init__" = some (.val (.builtin "ValueError.__init__")))
    (xl_NoText : K.lookup C_NoText = some (excClassObj nm_NoText qn_NoText C_NoText N_NoText bs_NoText [.ref C_DearError, .type "ValueError", .type "Exception", .type "BaseException", .type "object"] true sn_NoText sb_NoText ab_NoText col_NoText dd_NoText m0_NoText m1_NoText m2_NoText m3_NoText m5_NoText "ValueError.__new__"))
    (sa_NoText : PySem.W.findIn K (.ref C_NoText) "__setattr__" = some (some (.builtin "object.__setattr__")))
    (x2_NoText : PySem.W.keepIn K (.ref C_NoText) = true)
    (x3_NoText : PySem.W.subIn K (.ref C_NoText) (.type "BaseException") = some true)
    (x4_NoText : PySem.W.typeIn K (.ref C_NoText) = some (.type "type"))
    (x5_NoText : PySem.W.findIn K (.ref C_NoText) "__getattribute__" = some (some (.builtin "BaseException.__getattribute__")))
    (x6_NoText : PySem.W.findIn K (.ref C_NoText) "__getattr__" = some none)
    (x7_NoText : PySem.W.hasDictIn K C_NoText = true)
    (x8_NoText : PySem.W.findIn K (.ref C_NoText) "__class__" = some (some (.builtin "object.__class__")))
    (x9_NoText : PySem.W.specialIn K (.builtin "object.__class__") "__get__" = some (some (.builtin "getset_descriptor.__get__")))
    (x10_NoText : PySem.W.takesIn K (.builtin "object.__class__") = some true)
    (x11_NoText : PySem.W.mroIn K C_NoText (.type "object") = some true)
    (fn_NoText : PySem.W.findIn K (.ref C_NoText) "row" = some none)
    (i1_NoText : PySem.W.findIn K (.ref C_NoText) "__init__" = some (some (.ref I_NoText)))
    (i2_NoText : PySem.W.typeIn K (.ref I_NoText) = some (.type "function"))
    (i3_NoText : K.lookup I_NoText = some ⟨ocI_NoText, odI_NoText, .func (PySem.W.fnOf "__init__" "NoText.__init__" (defArgs s_NoText___init__) (defBody s_NoText___init__) (defScope s_NoText___init__) .none kVI_NoText dcI_NoText pmI_NoText anI_NoText cdI_NoText ctI_NoText), slI_NoText⟩)
    (i4_NoText : PySem.W.codeIn K cdI_NoText "NoText.__init__" = true)
    (i5_NoText : PySem.W.keepIn K (.ref I_NoText) = true)
    (q_NoNumber_DearError : PySem.W.subIn K (.ref C_NoNumber) (.ref C_DearError) = some true)
    (n_NoNumber_DearError : (Value.ref C_NoNumber == Value.ref C_DearError) = false)
    (q_NoNumber_NoNumber : PySem.W.subIn K (.ref C_NoNumber) (.ref C_NoNumber) = some true)
    (q_NoNumber_NoBook : PySem.W.subIn K (.ref C_NoNumber) (.ref C_NoBook) = some false)
    (n_NoNumber_NoBook : (Value.ref C_NoNumber == Value.ref C_NoBook) = false)
    (q_NoNumber_NoTree : PySem.W.subIn K (.ref C_NoNumber) (.ref C_NoTree) = some false)
    (n_NoNumber_NoTree : (Value.ref C_NoNumber == Value.ref C_NoTree) = false)
    (q_NoNumber_TooMany : PySem.W.subIn K (.ref C_NoNumber) (.ref C_TooMany) = some false)
    (n_NoNumber_TooMany : (Value.ref C_NoNumber == Value.ref C_TooMany) = false)
    (q_NoNumber_NoCount : PySem.W.subIn K (.ref C_NoNumber) (.ref C_NoCount) = some false)
    (n_NoNumber_NoCount : (Value.ref C_NoNumber == Value.ref C_NoCount) = false)
    (q_NoNumber_NoUndo : PySem.W.subIn K (.ref C_NoNumber) (.ref C_NoUndo) = some false)
    (n_NoNumber_NoUndo : (Value.ref C_NoNumber == Value.ref C_NoUndo) = false)
    (q_NoNumber_NoTurn : PySem.W.subIn K (.ref C_NoNumber) (.ref C_NoTurn) = some false)
    (n_NoNumber_NoTurn : (Value.ref C_NoNumber == Value.ref C_NoTurn) = false)
    (q_NoNumber_NoRow : PySem.W.subIn K (.ref C_NoNumber) (.ref C_NoRow) = some false)
    (n_NoNumber_NoRow : (Value.ref C_NoNumber == Value.ref C_NoRow) = false)
    (q_NoNumber_Unknown : PySem.W.subIn K (.ref C_NoNumber) (.ref C_Unknown) = some false)
    (n_NoNumber_Unknown : (Value.ref C_NoNumber == Value.ref C_Unknown) = false)
    (q_NoNumber_NoTongue : PySem.W.subIn K (.ref C_NoNumber) (.ref C_NoTongue) = some false)
    (n_NoNumber_NoTongue : (Value.ref C_NoNumber == Value.ref C_NoTongue) = false)
    (q_NoNumber_NoWants : PySem.W.subIn K (.ref C_NoNumber) (.ref C_NoWants) = some false)
    (n_NoNumber_NoWants : (Value.ref C_NoNumber == Value.ref C_NoWants) = false)
    (q_NoNumber_NoThing : PySem.W.subIn K (.ref C_NoNumber) (.ref C_NoThing) = some false)
    (n_NoNumber_NoThing : (Value.ref C_NoNumber == Value.ref C_NoThing) = false)
    (q_NoNumber_BadSign : PySem.W.subIn K (.ref C_NoNumber) (.ref C_BadSign) = some false)
    (n_NoNumber_BadSign : (Value.ref C_NoNumber == Value.ref C_BadSign) = false)
    (q_NoNumber_NoText : PySem.W.subIn K (.ref C_NoNumber) (.ref C_NoText) = some false)
    (n_NoNumber_NoText : (Value.ref C_NoNumber == Value.ref C_NoText) = false)
    (q_NoNumber_ValueError : PySem.W.subIn K (.ref C_NoNumber) (.type "ValueError") = some true)
    (q_NoText_DearError : PySem.W.subIn K (.ref C_NoText) (.ref C_DearError) = some true)
    (n_NoText_DearError : (Value.ref C_NoText == Value.ref C_DearError) = false)
    (q_NoText_NoNumber : PySem.W.subIn K (.ref C_NoText) (.ref C_NoNumber) = some false)
    (n_NoText_NoNumber : (Value.ref C_NoText == Value.ref C_NoNumber) = false)
    (q_NoText_NoBook : PySem.W.subIn K (.ref C_NoText) (.ref C_NoBook) = some false)
    (n_NoText_NoBook : (Value.ref C_NoText == Value.ref C_NoBook) = false)
    (q_NoText_NoTree : PySem.W.subIn K (.ref C_NoText) (.ref C_NoTree) = some false)
    (n_NoText_NoTree : (Value.ref C_NoText == Value.ref C_NoTree) = false)
    (q_NoText_TooMany : PySem.W.subIn K (.ref C_NoText) (.ref C_TooMany) = some false)
    (n_NoText_TooMany : (Value.ref C_NoText == Value.ref C_TooMany) = false)
    (q_NoText_NoCount : PySem.W.subIn K (.ref C_NoText) (.ref C_NoCount) = some false)
    (n_NoText_NoCount : (Value.ref C_NoText == Value.ref C_NoCount) = false)
    (q_NoText_NoUndo : PySem.W.subIn K (.ref C_NoText) (.ref C_NoUndo) = some false)
    (n_NoText_NoUndo : (Value.ref C_NoText == Value.ref C_NoUndo) = false)
    (q_NoText_NoTurn : PySem.W.subIn K (.ref C_NoText) (.ref C_NoTurn) = some false)
    (n_NoText_NoTurn : (Value.ref C_NoText == Value.ref C_NoTurn) = false)
    (q_NoText_NoRow : PySem.W.subIn K (.ref C_NoText) (.ref C_NoRow) = some false)
    (n_NoText_NoRow : (Value.ref C_NoText == Value.ref C_NoRow) = false)
    (q_NoText_Unknown : PySem.W.subIn K (.ref C_NoText) (.ref C_Unknown) = some false)
    (n_NoText_Unknown : (Value.ref C_NoText == Value.ref C_Unknown) = false)
    (q_NoText_NoTongue : PySem.W.subIn K (.ref C_NoText) (.ref C_NoTongue) = some false)
    (n_NoText_NoTongue : (Value.ref C_NoText == Value.ref C_NoTongue) = false)
    (q_NoText_NoWants : PySem.W.subIn K (.ref C_NoText) (.ref C_NoWants) = some false)
    (n_NoText_NoWants : (Value.ref C_NoText == Value.ref C_NoWants) = false)
    (q_NoText_NoThing : PySem.W.subIn K (.ref C_NoText) (.ref C_NoThing) = some false)
    (n_NoText_NoThing : (Value.ref C_NoText == Value.ref C_NoThing) = false)
    (q_NoText_BadSign : PySem.W.subIn K (.ref C_NoText) (.ref C_BadSign) = some false)
    (n_NoText_BadSign : (Value.ref C_NoText == Value.ref C_BadSign) = false)
    (q_NoText_NoText : PySem.W.subIn K (.ref C_NoText) (.ref C_NoText) = some true)
    (q_NoText_ValueError : PySem.W.subIn K (.ref C_NoText) (.type "ValueError") = some true)
    (a1 : PySem.W.nsIn K mainGlobals "is_whole" = some (some (.ref f1))) (l1 : K.lookup f1 = some ⟨oc1, od1, .func (PySem.W.fnOf "is_whole" "is_whole" (defArgs s_is_whole) (defBody s_is_whole) (defScope s_is_whole) .none kV1 dc1 pm1 an1 cd1 ct1), sl1⟩) (c1 : PySem.W.codeIn K cd1 "is_whole" = true) (k1 : PySem.W.keepIn K (.ref f1) = true)
    (a2 : PySem.W.nsIn K mainGlobals "divisor" = some (some (.ref f2))) (l2 : K.lookup f2 = some ⟨oc2, od2, .func (PySem.W.fnOf "divisor" "divisor" (defArgs s_divisor) (defBody s_divisor) (defScope s_divisor) .none kV2 dc2 pm2 an2 cd2 ct2), sl2⟩) (c2 : PySem.W.codeIn K cd2 "divisor" = true) (k2 : PySem.W.keepIn K (.ref f2) = true)
    (a3 : PySem.W.nsIn K mainGlobals "lowest" = some (some (.ref f3))) (l3 : K.lookup f3 = some ⟨oc3, od3, .func (PySem.W.fnOf "lowest" "lowest" (defArgs s_lowest) (defBody s_lowest) (defScope s_lowest) .none kV3 dc3 pm3 an3 cd3 ct3), sl3⟩) (c3 : PySem.W.codeIn K cd3 "lowest" = true) (k3 : PySem.W.keepIn K (.ref f3) = true)
    (a4 : PySem.W.nsIn K mainGlobals "fraction" = some (some (.ref f4))) (l4 : K.lookup f4 = some ⟨oc4, od4, .func (PySem.W.fnOf "fraction" "fraction" (defArgs s_fraction) (defBody s_fraction) (defScope s_fraction) (.ref T4) kV4 dc4 pm4 an4 cd4 ct4), sl4⟩) (c4 : PySem.W.codeIn K cd4 "fraction" = true) (k4 : PySem.W.keepIn K (.ref f4) = true) (d4 : K.lookup T4 = some ⟨oC4, oD4, .seq #[.int 1 u4_0] n4, sD4⟩)
    (a5 : PySem.W.nsIn K mainGlobals "whole_in" = some (some (.ref f5))) (l5 : K.lookup f5 = some ⟨oc5, od5, .func (PySem.W.fnOf "whole_in" "whole_in" (defArgs s_whole_in) (defBody s_whole_in) (defScope s_whole_in) .none kV5 dc5 pm5 an5 cd5 ct5), sl5⟩) (c5 : PySem.W.codeIn K cd5 "whole_in" = true) (k5 : PySem.W.keepIn K (.ref f5) = true)
    (a6 : PySem.W.nsIn K mainGlobals "fraction_in" = some (some (.ref f6))) (l6 : K.lookup f6 = some ⟨oc6, od6, .func (PySem.W.fnOf "fraction_in" "fraction_in" (defArgs s_fraction_in) (defBody s_fraction_in) (defScope s_fraction_in) .none kV6 dc6 pm6 an6 cd6 ct6), sl6⟩) (c6 : PySem.W.codeIn K cd6 "fraction_in" = true) (k6 : PySem.W.keepIn K (.ref f6) = true)
    (a7 : PySem.W.nsIn K mainGlobals "read_fraction" = some (some (.ref f7))) (l7 : K.lookup f7 = some ⟨oc7, od7, .func (PySem.W.fnOf "read_fraction" "read_fraction" (defArgs s_read_fraction) (defBody s_read_fraction) (defScope s_read_fraction) .none kV7 dc7 pm7 an7 cd7 ct7), sl7⟩) (c7 : PySem.W.codeIn K cd7 "read_fraction" = true) (k7 : PySem.W.keepIn K (.ref f7) = true)
    (a8 : PySem.W.nsIn K mainGlobals "_law_pool" = some (some (.ref f8))) (l8 : K.lookup f8 = some ⟨oc8, od8, .func (PySem.W.fnOf "_law_pool" "_law_pool" (defArgs s__law_pool) (defBody s__law_pool) (defScope s__law_pool) .none kV8 dc8 pm8 an8 cd8 ct8), sl8⟩) (c8 : PySem.W.codeIn K cd8 "_law_pool" = true) (k8 : PySem.W.keepIn K (.ref f8) = true)
    (a9 : PySem.W.nsIn K mainGlobals "_law_take" = some (some (.ref f9))) (l9 : K.lookup f9 = some ⟨oc9, od9, .func (PySem.W.fnOf "_law_take" "_law_take" (defArgs s__law_take) (defBody s__law_take) (defScope s__law_take) .none kV9 dc9 pm9 an9 cd9 ct9), sl9⟩) (c9 : PySem.W.codeIn K cd9 "_law_take" = true) (k9 : PySem.W.keepIn K (.ref f9) = true)
    (a10 : PySem.W.nsIn K mainGlobals "_law_low" = some (some (.ref f10))) (l10 : K.lookup f10 = some ⟨oc10, od10, .func (PySem.W.fnOf "_law_low" "_law_low" (defArgs s__law_low) (defBody s__law_low) (defScope s__law_low) .none kV10 dc10 pm10 an10 cd10 ct10), sl10⟩) (c10 : PySem.W.codeIn K cd10 "_law_low" = true) (k10 : PySem.W.keepIn K (.ref f10) = true)
    (a11 : PySem.W.nsIn K mainGlobals "_law_great" = some (some (.ref f11))) (l11 : K.lookup f11 = some ⟨oc11, od11, .func (PySem.W.fnOf "_law_great" "_law_great" (defArgs s__law_great) (defBody s__law_great) (defScope s__law_great) .none kV11 dc11 pm11 an11 cd11 ct11), sl11⟩) (c11 : PySem.W.codeIn K cd11 "_law_great" = true) (k11 : PySem.W.keepIn K (.ref f11) = true)
    (a12 : PySem.W.nsIn K mainGlobals "_law_odd" = some (some (.ref f12))) (l12 : K.lookup f12 = some ⟨oc12, od12, .func (PySem.W.fnOf "_law_odd" "_law_odd" (defArgs s__law_odd) (defBody s__law_odd) (defScope s__law_odd) .none kV12 dc12 pm12 an12 cd12 ct12), sl12⟩) (c12 : PySem.W.codeIn K cd12 "_law_odd" = true) (k12 : PySem.W.keepIn K (.ref f12) = true)
    (a13 : PySem.W.nsIn K mainGlobals "_law_is_refused" = some (some (.ref f13))) (l13 : K.lookup f13 = some ⟨oc13, od13, .func (PySem.W.fnOf "_law_is_refused" "_law_is_refused" (defArgs s__law_is_refused) (defBody s__law_is_refused) (defScope s__law_is_refused) .none kV13 dc13 pm13 an13 cd13 ct13), sl13⟩) (c13 : PySem.W.codeIn K cd13 "_law_is_refused" = true) (k13 : PySem.W.keepIn K (.ref f13) = true)
    (a14 : PySem.W.nsIn K mainGlobals "law" = some (some (.ref f14))) (l14 : K.lookup f14 = some ⟨oc14, od14, .func (PySem.W.fnOf "law" "law" (defArgs s_law) (defBody s_law) (defScope s_law) .none kV14 dc14 pm14 an14 cd14 ct14), sl14⟩) (c14 : PySem.W.codeIn K cd14 "law" = true) (k14 : PySem.W.keepIn K (.ref f14) = true)
    (a15 : PySem.W.nsIn K mainGlobals "FIGURES" = some (some (.str "0123456789" t15)))
    (a16 : PySem.W.nsIn K mainGlobals "MOST_FIGURES" = some (some (.int 60 t16)))
    (a17 : PySem.W.nsIn K mainGlobals "ValueError" = some none)
    (a18 : PySem.W.nsIn K mainGlobals "abs" = some none)
    (a19 : PySem.W.nsIn K mainGlobals "all" = some none)
    (a20 : PySem.W.nsIn K mainGlobals "bool" = some none)
    (a21 : PySem.W.nsIn K mainGlobals "int" = some none)
    (a22 : PySem.W.nsIn K mainGlobals "isinstance" = some none)
    (a23 : PySem.W.nsIn K mainGlobals "len" = some none)
    (a24 : PySem.W.nsIn K mainGlobals "max" = some none)
    (a25 : PySem.W.nsIn K mainGlobals "min" = some none)
    (a26 : PySem.W.nsIn K mainGlobals "range" = some none)
    (a27 : PySem.W.nsIn K mainGlobals "str" = some none)
    : Txt K mg :=
  ⟨⟨C_DearError, C_NoNumber, C_NoBook, C_NoTree, C_TooMany, C_NoCount, C_NoUndo, C_NoTurn, C_NoRow, C_Unknown, C_NoTongue, C_NoWants, C_NoThing, C_BadSign, C_NoText⟩,
   PySem.W.mg_of X G g_DearError,
   PySem.W.mg_of X G g_NoNumber,
   PySem.W.mg_of X G g_NoBook,
   PySem.W.mg_of X G g_NoTree,
   PySem.W.mg_of X G g_TooMany,
   PySem.W.mg_of X G g_NoCount,
   PySem.W.mg_of X G g_NoUndo,
   PySem.W.mg_of X G g_NoTurn,
   PySem.W.mg_of X G g_NoRow,
   PySem.W.mg_of X G g_Unknown,
   PySem.W.mg_of X G g_NoTongue,
   PySem.W.mg_of X G g_NoWants,
   PySem.W.mg_of X G g_NoThing,
   PySem.W.mg_of X G g_BadSign,
   PySem.W.mg_of X G g_NoText,
   ⟨PySem.W.mg_of X G g_NoNumber, x1_NoNumber, x2_NoNumber, x3_NoNumber, x4_NoNumber, ⟨x5_NoNumber, x6_NoNumber, x3_NoNumber, x7_NoNumber, x8_NoNumber, x9_NoNumber, x10_NoNumber, x11_NoNumber⟩⟩,
   ⟨PySem.W.mg_of X G g_DearError, d1, d2, d3⟩,
   ⟨PySem.W.mg_of X G g_NoText, ⟨⟨nm_NoText, qn_NoText, N_NoText, bs_NoText, _, sn_NoText, sb_NoText, ab_NoText, col_NoText, dd_NoText, m0_NoText, m1_NoText, m2_NoText, m3_NoText, m5_NoText, xl_NoText, rfl⟩, sa_NoText, x3_NoText, x4_NoText, x2_NoText⟩, fn_NoText, ⟨x5_NoText, x6_NoText, x3_NoText, x7_NoText, x8_NoText, x9_NoText, x10_NoText, x11_NoText⟩⟩,
   ⟨I_NoText, _, i1_NoText, i2_NoText, fun_mk (st := s_NoText___init__) i3_NoText i4_NoText i5_NoText, (fun_mk (st := s_NoText___init__) i3_NoText i4_NoText i5_NoText).binds (ps := ["self", "row"]) fun _ _ _ _ _ _ us hl => match us, hl with | [_, _], _ => rfl⟩,
   kit_ref n_NoNumber_DearError i_DearError t_DearError q_NoNumber_DearError,
   kit_self,
   kit_ref n_NoNumber_NoBook i_NoBook t_NoBook q_NoNumber_NoBook,
   kit_ref n_NoNumber_NoTree i_NoTree t_NoTree q_NoNumber_NoTree,
   kit_ref n_NoNumber_TooMany i_TooMany t_TooMany q_NoNumber_TooMany,
   kit_ref n_NoNumber_NoCount i_NoCount t_NoCount q_NoNumber_NoCount,
   kit_ref n_NoNumber_NoUndo i_NoUndo t_NoUndo q_NoNumber_NoUndo,
   kit_ref n_NoNumber_NoTurn i_NoTurn t_NoTurn q_NoNumber_NoTurn,
   kit_ref n_NoNumber_NoRow i_NoRow t_NoRow q_NoNumber_NoRow,
   kit_ref n_NoNumber_Unknown i_Unknown t_Unknown q_NoNumber_Unknown,
   kit_ref n_NoNumber_NoTongue i_NoTongue t_NoTongue q_NoNumber_NoTongue,
   kit_ref n_NoNumber_NoWants i_NoWants t_NoWants q_NoNumber_NoWants,
   kit_ref n_NoNumber_NoThing i_NoThing t_NoThing q_NoNumber_NoThing,
   kit_ref n_NoNumber_BadSign i_BadSign t_BadSign q_NoNumber_BadSign,
   kit_ref n_NoNumber_NoText i_NoText t_NoText q_NoNumber_NoText,
   kit_val q_NoNumber_ValueError,
   exm_ref2 b_DearError i_DearError t_DearError q_NoNumber_DearError,
   kit_ref n_NoText_DearError i_DearError t_DearError q_NoText_DearError,
   kit_ref n_NoText_NoNumber i_NoNumber t_NoNumber q_NoText_NoNumber,
   kit_ref n_NoText_NoBook i_NoBook t_NoBook q_NoText_NoBook,
   kit_ref n_NoText_NoTree i_NoTree t_NoTree q_NoText_NoTree,
   kit_ref n_NoText_TooMany i_TooMany t_TooMany q_NoText_TooMany,
   kit_ref n_NoText_NoCount i_NoCount t_NoCount q_NoText_NoCount,
   kit_ref n_NoText_NoUndo i_NoUndo t_NoUndo q_NoText_NoUndo,
   kit_ref n_NoText_NoTurn i_NoTurn t_NoTurn q_NoText_NoTurn,
   kit_ref n_NoText_NoRow i_NoRow t_NoRow q_NoText_NoRow,
   kit_ref n_NoText_Unknown i_Unknown t_Unknown q_NoText_Unknown,
   kit_ref n_NoText_NoTongue i_NoTongue t_NoTongue q_NoText_NoTongue,
   kit_ref n_NoText_NoWants i_NoWants t_NoWants q_NoText_NoWants,
   kit_ref n_NoText_NoThing i_NoThing t_NoThing q_NoText_NoThing,
   kit_ref n_NoText_BadSign i_BadSign t_BadSign q_NoText_BadSign,
   kit_self,
   kit_val q_NoText_ValueError,
   exm_ref2 b_DearError i_DearError t_DearError q_NoText_DearError,
   ⟨f1, _, PySem.W.mg_of X G a1, fun_mk (st := s_is_whole) l1 c1 k1, (fun_mk (st := s_is_whole) l1 c1 k1).binds (ps := ["thing"]) fun _ _ _ _ _ _ us hl => match us, hl with | [_], _ => rfl⟩,
   ⟨f2, _, PySem.W.mg_of X G a2, fun_mk (st := s_divisor) l2 c2 k2, (fun_mk (st := s_divisor) l2 c2 k2).binds (ps := ["one", "other"]) fun _ _ _ _ _ _ us hl => match us, hl with | [_, _], _ => rfl⟩,
   ⟨f3, _, PySem.W.mg_of X G a3, fun_mk (st := s_lowest) l3 c3 k3, (fun_mk (st := s_lowest) l3 c3 k3).binds (ps := ["top", "bottom"]) fun _ _ _ _ _ _ us hl => match us, hl with | [_, _], _ => rfl⟩,
   dfD_mk (st := s_fraction) (PySem.W.mg_of X G a4) l4 c4 k4 d4 (.cons ⟨_, rfl⟩ (.nil)) (by simp) rfl rfl (fun _ _ _ _ _ _ _ us its h1 h2 => match us, its, h1, h2 with | [_], [_], _, _ => ⟨_, rfl, rfl⟩) (fun _ _ _ _ _ _ _ us its h1 h2 => match us, its, h1, h2 with | [_, _], [_], _, _ => ⟨_, rfl, rfl⟩),
   ⟨f5, _, PySem.W.mg_of X G a5, fun_mk (st := s_whole_in) l5 c5 k5, (fun_mk (st := s_whole_in) l5 c5 k5).binds (ps := ["word", "most"]) fun _ _ _ _ _ _ us hl => match us, hl with | [_, _], _ => rfl⟩,
   ⟨f6, _, PySem.W.mg_of X G a6, fun_mk (st := s_fraction_in) l6 c6 k6, (fun_mk (st := s_fraction_in) l6 c6 k6).binds (ps := ["word", "most"]) fun _ _ _ _ _ _ us hl => match us, hl with | [_, _], _ => rfl⟩,
   ⟨f7, _, PySem.W.mg_of X G a7, fun_mk (st := s_read_fraction) l7 c7 k7, (fun_mk (st := s_read_fraction) l7 c7 k7).binds (ps := ["text"]) fun _ _ _ _ _ _ us hl => match us, hl with | [_], _ => rfl⟩,
   ⟨f8, _, PySem.W.mg_of X G a8, fun_mk (st := s__law_pool) l8 c8 k8, (fun_mk (st := s__law_pool) l8 c8 k8).binds (ps := ["_law_script", "_law_k"]) fun _ _ _ _ _ _ us hl => match us, hl with | [_, _], _ => rfl⟩,
   ⟨f9, _, PySem.W.mg_of X G a9, fun_mk (st := s__law_take) l9 c9 k9, (fun_mk (st := s__law_take) l9 c9 k9).binds (ps := ["_law_pool_here", "_law_many"]) fun _ _ _ _ _ _ us hl => match us, hl with | [_, _], _ => rfl⟩,
   ⟨f10, _, PySem.W.mg_of X G a10, fun_mk (st := s__law_low) l10 c10 k10, (fun_mk (st := s__law_low) l10 c10 k10).binds (ps := ["_law_top", "_law_bottom"]) fun _ _ _ _ _ _ us hl => match us, hl with | [_, _], _ => rfl⟩,
   ⟨f11, _, PySem.W.mg_of X G a11, fun_mk (st := s__law_great) l11 c11 k11, (fun_mk (st := s__law_great) l11 c11 k11).binds (ps := ["_law_pool_here"]) fun _ _ _ _ _ _ us hl => match us, hl with | [_], _ => rfl⟩,
   ⟨f12, _, PySem.W.mg_of X G a12, fun_mk (st := s__law_odd) l12 c12 k12, (fun_mk (st := s__law_odd) l12 c12 k12).binds (ps := ["_law_pool_here", "_law_one"]) fun _ _ _ _ _ _ us hl => match us, hl with | [_, _], _ => rfl⟩,
   ⟨f13, _, PySem.W.mg_of X G a13, fun_mk (st := s__law_is_refused) l13 c13 k13, (fun_mk (st := s__law_is_refused) l13 c13 k13).binds (ps := ["_law_thing"]) fun _ _ _ _ _ _ us hl => match us, hl with | [_], _ => rfl⟩,
   ⟨f14, _, PySem.W.mg_of X G a14, fun_mk (st := s_law) l14 c14 k14, (fun_mk (st := s_law) l14 c14 k14).binds (ps := ["_law_script"]) fun _ _ _ _ _ _ us hl => match us, hl with | [_], _ => rfl⟩,
   ⟨_, PySem.W.mg_of X G a15⟩,
   ⟨_, PySem.W.mg_of X G a16⟩,
   PySem.W.mg_none_of X G a17,
   PySem.W.mg_none_of X G a18,
   PySem.W.mg_none_of X G a19,
   PySem.W.mg_none_of X G a20,
   PySem.W.mg_none_of X G a21,
   PySem.W.mg_none_of X G a22,
   PySem.W.mg_none_of X G a23,
   PySem.W.mg_none_of X G a24,
   PySem.W.mg_none_of X G a25,
   PySem.W.mg_none_of X G a26,
   PySem.W.mg_none_of X G a27⟩
theorem oi_NoText {P : Program} {w : World} {K : PySem.W.Frag} {mg : Str → Option Value} {base : Heap} (T : Txt K mg) : OkI P w K mg base "NoText" "row" T.A.NoText := by
  obtain ⟨fI, fd, h1, h2, F, b⟩ := T.F_NoText
  refine ⟨fI, fd, h1, h2, F.ok c_NoText___init__ (fun vs H Q E h => ?_) (fun cdv A outer s H vs Q E hr h => ?_), b, T.X_NoText⟩
  · obtain ⟨a, C, v, rfl, _⟩ := h
    rfl
  · obtain ⟨a, C, v, rfl, o, n, ha, fv, k⟩ := h
    refine ⟨_, (pss_cons (ps_expr (pe_drinit T.D_DearError (pa_cons (pv 0) (pa_cons (pe_joined (.cons pe_str (.cons (pe_fmtN (pv 1)) .nil))) pa_nil)))) (pss_one (ps_ost (pv 0) (pv 1)))), ?_⟩
    refine ⟨_, rfl, _, rfl, (by decide +kernel), _, rfl, fv, fun z hz => ⟨z, rfl, ?_, ?_⟩⟩
    · rw [str_len]
      exact Nat.le_trans (Nat.add_le_add_right (show _ ≤ 100 by decide +kernel) _) (sz_lit (by omega))
    · exact ⟨a, C, _, rfl, (by decide : 1 ≤ 1000), o, ha, _, rfl, _, rfl, a, C, rfl, o, n, .inl ⟨ha, fun dx hd ne => k dx hd ne⟩⟩

end Dear


namespace Dear
open PySem PySem.Spec PyProof.Rows L2
/-! ### author B's draws -/
def spPool (K : PySem.W.Frag) : Sp := fun vs H Q _ => ∃ (a : Addr) (ns : List Int) (k : Int), vs = [.ref a, .int k] ∧ SqL K H a (ns.map V.int) ∧ 0 ≤ k ∧ k ≤ 1000000 ∧ ∀ (l : Addr) (H' : Hp), H l = none → Same H H' → Src H' l → Q (.ref l) H'
def spName : Sp := fun vs H Q _ => ∃ (k s : Nat), vs = [.int k, .int s] ∧ k ≤ 1000 ∧ s ≤ 100000 ∧ ∀ H', Same H H' → Q (.str (txt (nameL k s))) H'
def spWants : Sp := fun vs H Q _ => ∃ (l : Addr) (m : Int), vs = [.ref l, .int m] ∧ Src H l ∧ 1 ≤ m ∧ m ≤ 20 ∧
  ∀ (p : Addr) (xs : List V) (ws : List (List Nat × Int)) (H' : Hp), H p = none → p ≠ l → But l H H' → Src H' l → H' p = some (.lst xs) → DtAll H' xs (ws.map wantD) → WsOk ws → (ws.length : Int) = m → Q (.ref p) H'
section
variable {P : Program} {w : World} {K : PySem.W.Frag} {mg : Str → Option Value} {base : Heap}
theorem o__law_pool (T : Txt K mg) : OkF P w K mg base CX0 1 "_law_pool" ["_law_script", "_law_k"] (spPool K) := by
  refine T.f__law_pool.ok c__law_pool (fun vs H Q E h => ?_) (fun f cdv A outer s H vs Q E hr h => ?_)
  · obtain ⟨a, ns, k, rfl, _⟩ := h
    rfl
  · obtain ⟨a, ns, k, rfl, hS, k0, k9, q⟩ := h
    refine ⟨_, (pss_cons (ps_set (i := 2) c__law_pool.nd rfl (Or.inl rfl) pe_int)
(C8.pss_cut (ps_if (pt_cmpR op_lt (pv 1) (pe_callB (call_len_seq_k K) (by rfl) T.b_len PySem.boot_len (pa_cons (pv 0) pa_nil)) (nomark _))
(pss_one (ps_set (i := 2) c__law_pool.nd rfl (Or.inl rfl) (pe_ix (ix_list_k K) (pv 0) (pv 1) (fun _ _ => rfl))))
pss_nil)
(pss_cons (ps_set (i := 3) c__law_pool.nd rfl (Or.inl rfl) (pe_op op_mod (pe_op op_mul (pe_op op_add (pe_op op_add (pe_op op_mod (pv 2) pe_int) (pe_op op_mul (pe_op op_mul pe_int (pv 1)) (pv 1))) pe_int) pe_int) pe_int))
(C8.pss_cut (ps_if (pt_cmpR op_lt (pv 2) (pe_op op_pow pe_int pe_int) (nomark _))
(pss_one (ps_set (i := 2) c__law_pool.nd rfl (Or.inl rfl) pe_int))
pss_nil)
(pss_one (ps_ret (pe_lst (pa_cons (pv 2) (pa_cons (pv 3) pa_nil))))))))), ?_⟩
    refine ⟨fun σ' H' => H' = H ∧ ∃ c : Int, σ' = [some (.ref a), some (.int k), some (.int c), none], ?_, ?_⟩
    · refine ⟨_, rfl, _, rfl, _, _, rfl, .inl hS, _, _, rfl, rfl, _, rfl, itd (fun c => ?_) fun _ => ⟨rfl, 0, rfl⟩⟩
      obtain ⟨x, hx, hm, _⟩ := at_lt k0 c
      obtain ⟨z, _, rfl⟩ := List.mem_map.mp hm
      exact ⟨_, rfl, _, rfl, _, _, _, _, rfl, rfl, hS, hx, rfl, z, rfl⟩
    rintro σ' H' ⟨rfl, c, rfl⟩
    refine ⟨_, rfl, _, _, rfl, rfl, (by show (0 : Int) < 1000000007; decide), _, rfl, _, _, rfl, rfl, .inl ⟨by decide, by decide⟩, _, rfl, _, _, rfl, rfl, .inr ⟨by omega, by omega⟩, _, _, rfl, rfl, _, _, rfl, rfl, _, _, rfl, rfl, .inr ⟨by decide, by decide⟩, _, _, rfl, rfl, (by show (0 : Int) < 2147483647; decide), ?_⟩
    have b0 : 0 ≤ ((c % 1000000007 + 15485863 * k * k + 3) * 39373) % 2147483647 := Int.emod_nonneg _ (by decide)
    have b1 : ((c % 1000000007 + 15485863 * k * k + 3) * 39373) % 2147483647 < 2147483647 := Int.emod_lt_of_pos _ (by decide)
    refine ⟨fun σ' H'' => H'' = H' ∧ ∃ c' : Int, 0 ≤ c' ∧ σ' = [some (.ref a), some (.int k), some (.int c'), some (.int (((c % 1000000007 + 15485863 * k * k + 3) * 39373) % 2147483647))], ?_, ?_⟩
    · refine ⟨_, rfl, _, _, rfl, rfl, ⟨by decide, by decide, by decide⟩, _, _, rfl, rfl, _, rfl, itd (fun _ => ⟨rfl, 0, by decide, rfl⟩) fun h => ⟨rfl, c, ?_, rfl⟩⟩
      have h : ¬ c < (10 : Int) ^ (18 : Nat) := h
      omega
    rintro σ' H'' ⟨rfl, c', hc', rfl⟩
    exact ⟨_, rfl, _, rfl, (by show 2 ≤ sizeLine; decide), fun l hl => q l _ hl (Same.upd hl) ⟨_, _, upd_same, hc', b0, b1⟩⟩
theorem o__law_take (T : Txt K mg) : OkF P w K mg base CX0 1 "_law_take" ["_law_pool_here", "_law_many"] spDraw := by
  refine T.f__law_take.ok c__law_take (fun vs H Q E h => ?_) (fun f cdv A outer s H vs Q E hr h => ?_)
  · obtain ⟨l, m, rfl, _⟩ := h
    rfl
  · obtain ⟨l, m, rfl, ⟨n, z, h1, hn, hz, hz2⟩, hm, hm9, q⟩ := h
    refine ⟨_, (pss_cons (ps_if (pt_cmpR op_gt (pe_ix (ix_list_k K) (pv 0) pe_int (fun _ _ => rfl)) pe_int (nomark _))
(pss_cons (ps_set (i := 2) c__law_take.nd rfl (Or.inl rfl) (pe_op op_mod (pe_ix (ix_list_k K) (pv 0) pe_int (fun _ _ => rfl)) (pv 1)))
(pss_cons (ps_asg (pe_op op_fdivW (pe_ix (ix_list_k K) (pv 0) pe_int (fun _ _ => rfl)) (pv 1)) (pg_sub (pv 0) pe_int set_list))
(pss_one (ps_ret (pv 2)))))
pss_nil)
(pss_cons (ps_asg (pe_op op_mod (pe_op op_add (pe_op op_mul (pe_ix (ix_list_k K) (pv 0) pe_int (fun _ _ => rfl)) pe_int) pe_int) pe_int) (pg_sub (pv 0) pe_int set_list))
(pss_one (ps_ret (pe_op op_mod (pe_op op_fdivW (pe_op op_mod (pe_op op_mul (pe_ix (ix_list_k K) (pv 0) pe_int (fun _ _ => rfl)) (pe_ix (ix_list_k K) (pv 0) pe_int (fun _ _ => rfl))) pe_int) pe_int) (pv 1)))))), ?_⟩
    refine ⟨_, rfl, _, _, _, _, rfl, rfl, SqL.of h1, rfl, _, _, rfl, rfl, _, rfl, itd (fun c => ?_) fun c => ?_⟩
    · refine ⟨_, rfl, _, _, _, _, rfl, rfl, SqL.of h1, rfl, _, rfl, _, _, rfl, rfl, hm, ?_⟩
      refine ⟨_, rfl, _, _, _, _, rfl, rfl, SqL.of h1, rfl, _, rfl, _, _, rfl, rfl, ⟨hm, hm9⟩, _, rfl, _, _, _, _, rfl, rfl, h1, rfl, ?_⟩
      refine ⟨_, rfl, ?_⟩
      exact q _ _ (Int.emod_nonneg _ (by omega)) (Int.emod_lt_of_pos _ hm) But.upd ⟨_, _, upd_same, Int.ediv_nonneg (by omega) (by omega), hz, hz2⟩
    · refine ⟨_, rfl, _, _, _, _, rfl, rfl, SqL.of h1, rfl, _, _, rfl, rfl, .inr ⟨by decide, by decide⟩, _, _, rfl, rfl, _, _, rfl, rfl, (by show (0 : Int) < 2147483647; decide), _, rfl, _, _, _, _, rfl, rfl, h1, rfl, ?_⟩
      have b0 : 0 ≤ (z * 48271 + 11) % 2147483647 := Int.emod_nonneg _ (by decide)
      have b1 : (z * 48271 + 11) % 2147483647 < 2147483647 := Int.emod_lt_of_pos _ (by decide)
      refine ⟨_, rfl, _, _, _, _, rfl, rfl, SqL.of upd_same, rfl, _, rfl, _, _, _, _, rfl, rfl, SqL.of upd_same, rfl, _, _, rfl, rfl, .inl ⟨by omega, by omega⟩, _, _, rfl, rfl, (by show (0 : Int) < 2147483629; decide), _, _, rfl, rfl, ⟨by decide, by decide⟩, _, rfl, _, _, rfl, rfl, hm, ?_⟩
      exact q _ _ (Int.emod_nonneg _ (by omega)) (Int.emod_lt_of_pos _ hm) But.upd ⟨_, _, upd_same, hn, b0, b1⟩
end
end Dear

namespace Dear
open PySem PySem.Spec PyProof.Rows L2
section
variable {P : Program} {w : World} {K : PySem.W.Frag} {mg : Str → Option Value} {base : Heap}
theorem o_is_whole (T : Txt K mg) : OkF P w K mg base CX0 1 "is_whole" ["thing"] spWhole := by
  refine T.f_is_whole.ok c_is_whole (fun vs H Q E h => ?_) (fun f cdv A outer s H vs Q E hr h => ?_)
  · obtain ⟨v, n, rfl, _⟩ := h
    rfl
  · obtain ⟨v, d, rfl, hI, k⟩ := h
    refine ⟨_, (pss_one (ps_ret (pe_and (pe_callB (call_isi_k K) (by rfl) T.b_isinstance (by decide +kernel) (pa_cons (pv 0) (pa_cons (pe_bltn (v := .ty "int") (by rfl) T.b_int (by decide +kernel) rfl) pa_nil))) (pe_one (pe_not (pe_callB (call_isi_k K) (by rfl) T.b_isinstance (by decide +kernel) (pa_cons (pv 0) (pa_cons (pe_bltn (v := .ty "bool") (by rfl) T.b_bool (by decide +kernel) rfl) pa_nil)))))))), ?_⟩
    refine ⟨_, rfl, _, _, _, _, _, rfl, .ty _, hI.ty, kit_ty (kd_int d), _, rfl, ?_⟩
    cases d with
    | int i => exact iteT ⟨_, rfl, _, _, _, _, _, rfl, .ty _, hI.ty, kit_ty (kd_bool _), _, rfl, k⟩
    | bl i => exact iteT ⟨_, rfl, _, _, _, _, _, rfl, .ty _, hI.ty, kit_ty (kd_bool _), _, rfl, k⟩
    | non => exact iteF k
    | str z => exact iteF k
    | lst z => exact iteF k
    | tup z => exact iteF k
    | dct => exact iteF k
theorem o_divisor (T : Txt K mg) : OkF P w K mg base CX0 1 "divisor" ["one", "other"] spDivisor := by
  refine T.f_divisor.ok c_divisor (fun vs H Q E h => ?_) (fun f cdv A outer s H vs Q E hr h => ?_)
  · obtain ⟨v, n, rfl, _⟩ := h
    rfl
  · obtain ⟨a, b, rfl, ha, hb, k⟩ := h
    refine ⟨_, (pss_cons (ps_while PassesOwn.never (pt_cmpR op_gt (pv 1) pe_int (nomark _))
(pss_one (ps_par (by rfl) c_divisor.nd (i := 0) (j := 1) rfl rfl (by decide) rfl rfl (pa_cons (pv 1) (pa_cons (pe_op op_mod (pv 0) (pv 1)) pa_nil)) (by rfl))))
(pss_one (ps_ret (pv 0)))), ?_⟩
    refine while_by (fun σ H' => H' = H ∧ ∃ x y : Int, σ = [some (.int x), some (.int y)] ∧ 0 ≤ x ∧ 0 ≤ y ∧ Int.gcd x y = Int.gcd a b) (fun σ _ => match σ with | [_, some (.int y)] => y.toNat | _ => 0) ⟨rfl, a, b, rfl, ha, hb, rfl⟩ ?_ ?_
    · rintro σ H' ⟨rfl, x, y, rfl, hx, hy, e⟩
      refine ⟨_, rfl, _, _, rfl, rfl, _, rfl, itd (fun c => ?_) fun c => ?_⟩
      · refine ⟨_, rfl, _, rfl, _, rfl, _, _, rfl, rfl, c, _, _, rfl, ⟨rfl, y, x % y, rfl, hy, Int.emod_nonneg _ (by omega), ?_⟩, ?_⟩
        · rw [gcd_step hx c]
          exact e
        · show (x % y).toNat < y.toNat
          have := Int.emod_lt_of_pos x c
          omega
      · have : y = 0 := by omega
        subst this
        refine ⟨_, rfl, ?_⟩
        rw [← e, Int.gcd_zero_right] at k
        have e2 : ((x.natAbs : Nat) : Int) = x := by omega
        rw [e2] at k
        exact k
    · rintro σ H Q Q' hq ⟨v, e1, i, j, e2, e3, x, e4, q⟩
      exact ⟨v, e1, i, j, e2, e3, x, e4, hq _ _ q⟩
end
end Dear

namespace Dear
open PySem PySem.Spec PyProof.Rows L2
/-! ### fractions made of two whole numbers -/
theorem gcd_dvd_t (t b : Int) : (Int.gcd b t : Int) ∣ t := Int.gcd_dvd_right ..
theorem gcd_dvd_b (t b : Int) : (Int.gcd b t : Int) ∣ b := Int.gcd_dvd_left ..
theorem low_mul (t b : Int) (h : 0 < b) : lowT t b * (Int.gcd b t : Int) = t ∧ lowB t b * (Int.gcd b t : Int) = b := ⟨Int.ediv_mul_cancel (gcd_dvd_t t b), Int.ediv_mul_cancel (gcd_dvd_b t b)⟩
theorem low_fr (t b : Int) (h : 0 < b) : 0 < lowB t b ∧ Int.gcd (lowB t b) (lowT t b) = 1 := by
  have g := gcd_pos t h
  obtain ⟨e1, e2⟩ := low_mul t b h
  constructor
  · rcases Int.lt_or_le 0 (lowB t b) with z | z
    · exact z
    · have := Int.mul_nonpos_of_nonpos_of_nonneg z (Int.le_of_lt g)
      omega
  · have g' : 0 < Nat.gcd b.natAbs t.natAbs := by
      have : ((Int.gcd b t : Nat) : Int) = ((Nat.gcd b.natAbs t.natAbs : Nat) : Int) := rfl
      omega
    have n1 : (lowT t b).natAbs = t.natAbs / Nat.gcd b.natAbs t.natAbs := by
      have := congrArg Int.natAbs e1
      rw [Int.natAbs_mul] at this
      have e : ((Int.gcd b t : Nat) : Int).natAbs = Nat.gcd b.natAbs t.natAbs := Int.natAbs_natCast _
      rw [e] at this
      exact (Nat.div_eq_of_eq_mul_left g' this.symm).symm
    have n2 : (lowB t b).natAbs = b.natAbs / Nat.gcd b.natAbs t.natAbs := by
      have := congrArg Int.natAbs e2
      rw [Int.natAbs_mul] at this
      have e : ((Int.gcd b t : Nat) : Int).natAbs = Nat.gcd b.natAbs t.natAbs := Int.natAbs_natCast _
      rw [e] at this
      exact (Nat.div_eq_of_eq_mul_left g' this.symm).symm
    show Nat.gcd (lowB t b).natAbs (lowT t b).natAbs = 1
    rw [n1, n2, Nat.gcd_div (Nat.gcd_dvd_left _ _) (Nat.gcd_dvd_right _ _)]
    exact Nat.div_self g'
theorem low_small (t b : Int) (h : 0 < b) : (lowT t b).natAbs ≤ t.natAbs ∧ (lowB t b).natAbs ≤ b.natAbs := by
  have g := gcd_pos t h
  obtain ⟨e1, e2⟩ := low_mul t b h
  have key : ∀ x y : Int, x * (Int.gcd b t : Int) = y → x.natAbs ≤ y.natAbs := fun x y e => by
    rw [← e, Int.natAbs_mul]
    exact Nat.le_mul_of_pos_right _ (by omega)
  exact ⟨key _ _ e1, key _ _ e2⟩
/-- worth the two crosswise -/
theorem low_cross (t b : Int) (h : 0 < b) : lowT t b * b = t * lowB t b := by
  obtain ⟨e1, e2⟩ := low_mul t b h
  have a : lowT t b * b = lowT t b * (lowB t b * (Int.gcd b t : Int)) := by rw [e2]
  have c : t * lowB t b = lowT t b * (Int.gcd b t : Int) * lowB t b := by rw [e1]
  rw [a, c, Int.mul_assoc, Int.mul_comm (Int.gcd b t : Int)]
def frT (t b : Int) : Int := if b < 0 then lowT (0 - t) (0 - b) else lowT t b
def frB (t b : Int) : Int := if b < 0 then lowB (0 - t) (0 - b) else lowB t b
theorem fr_cross {t b : Int} (h : b ≠ 0) : frT t b * b = t * frB t b := by
  unfold frT frB
  by_cases c : b < 0
  · rw [if_pos c, if_pos c]
    have := low_cross (0 - t) (0 - b) (by omega)
    generalize lowT (0 - t) (0 - b) = x at this ⊢
    generalize lowB (0 - t) (0 - b) = y at this ⊢
    rw [Int.mul_sub, Int.sub_mul, Int.mul_zero, Int.zero_mul, Int.zero_sub, Int.zero_sub] at this
    exact Int.neg_inj.mp this
  · rw [if_neg c, if_neg c]
    exact low_cross t b (by omega)
theorem fr_fr {t b : Int} (h : b ≠ 0) : isFr (.tup [.int (frT t b), .int (frB t b)]) = true := by
  show (decide (0 < frB t b) && (Int.gcd (frB t b) (frT t b) == 1)) = true
  unfold frT frB
  by_cases c : b < 0
  · obtain ⟨h1, h2⟩ := low_fr (0 - t) (0 - b) (by omega)
    rw [if_pos c, if_pos c, decide_eq_true h1, h2]
    rfl
  · obtain ⟨h1, h2⟩ := low_fr t b (by omega)
    rw [if_neg c, if_neg c, decide_eq_true h1, h2]
    rfl
theorem fr_small {t b : Int} (h : b ≠ 0) : (frT t b).natAbs ≤ t.natAbs ∧ (frB t b).natAbs ≤ b.natAbs := by
  unfold frT frB
  by_cases c : b < 0
  · obtain ⟨h1, h2⟩ := low_small (0 - t) (0 - b) (by omega)
    rw [if_pos c, if_pos c]
    omega
  · rw [if_neg c, if_neg c]
    exact low_small t b (by omega)
/-- two whole numbers, the second not 0 -/
def twoOk : D → D → Bool
  | .int _, .int b => !decide (b = 0)
  | _, _ => false
/-- fraction(top, bottom): a new tuple, or a refusal of the class at C -/
def spFraction (C : Addr) : Sp := fun vs H Q E => ∃ (v1 v2 : V) (d1 d2 : D), vs = [v1, v2] ∧ Dt H v1 d1 ∧ Dt H v2 d2 ∧ Ok d2 ∧
  (∀ t b : Int, d1 = .int t → d2 = .int b → b ≠ 0 → ∀ (p : Addr) (H' : Hp), H p = none → Same H H' → H' p = some (.tup [.int (frT t b), .int (frB t b)]) → Q (.ref p) H') ∧
  (twoOk d1 d2 = false → E (.ref C) none H)
section
variable {P : Program} {w : World} {K : PySem.W.Frag} {mg : Str → Option Value} {base : Heap}
theorem o_lowest (T : Txt K mg) : OkF P w K mg base CX0 2 "lowest" ["top", "bottom"] spLowest := by
  have o_divisor := o_divisor (P := P) (w := w) (base := base) T
  refine T.f_lowest.ok c_lowest (fun vs H Q E h => ?_) (fun f cdv A outer s H vs Q E hr h => ?_)
  · obtain ⟨v, n, rfl, _⟩ := h
    rfl
  · obtain ⟨t, b, rfl, hb, hl, k⟩ := h
    refine ⟨_, (pss_cons (ps_set (i := 2) c_lowest.nd rfl (Or.inl rfl) (pe_c o_divisor hr (pa_cons (pv 1) (pa_cons (pe_callB call_abs (by rfl) T.b_abs (by decide +kernel) (pa_cons (pv 0) pa_nil)) pa_nil))))
(pss_one (ps_ret (pe_tup (pa_cons (pe_op op_fdivW (pv 0) (pv 2)) (pa_cons (pe_op op_fdivW (pv 1) (pv 2)) pa_nil)))))), ?_⟩
    refine ⟨_, rfl, _, rfl, _, rfl, _, _, rfl, by omega, ?_, ?_⟩
    · split <;> omega
    · rw [abs_if, gcd_abs]
      refine ⟨_, rfl, _, rfl, _, _, rfl, rfl, ⟨gcd_pos t hb, gcd_log t hb hl⟩, _, rfl, _, rfl, _, _, rfl, rfl, ⟨gcd_pos t hb, gcd_log t hb hl⟩, (by show 2 ≤ sizeLine; decide), fun p hp => ?_⟩
      exact k p _ hp (Same.upd hp) upd_same
theorem o_fraction (T : Txt K mg) : OkD P w K mg base (L2.CX P w) 3 "fraction" ["top", "bottom"] [.int 1] (spFraction T.A.NoNumber) := by
  have o_is_whole := o_is_whole (P := P) (w := w) (base := base) T
  have o_lowest := o_lowest (P := P) (w := w) (base := base) T
  refine T.f_fraction.ok c_fraction (fun vs H Q E h => ?_) (fun f cdv A outer s H vs Q E hr h => ?_)
  · obtain ⟨v1, v2, d1, d2, rfl, _⟩ := h
    rfl
  · obtain ⟨v1, v2, d1, d2, rfl, h1, h2, ok2, k, kE⟩ := h
    refine ⟨_, (pss_cons (ps_if (PW.pt (pw_or (pt_not (pt_val (pe_c o_is_whole hr (pa_cons (pv 0) pa_nil)))) (pw_or (pt_not (pt_val (pe_c o_is_whole hr (pa_cons (pv 1) pa_nil)))) (pw_or1 (pt_cmpR op_eq (pv 1) pe_int (nomark _))))))
(pss_one (ps_raise rfl (takes_of rfl rfl rfl rfl) (pmk_own PySem.F.excBase_ValueError T.X_NoNumber.x T.X_NoNumber.g T.X_NoNumber.k (raises_own T.X_NoNumber.b T.X_NoNumber.t) rfl)))
pss_nil)
(pss_cons (ps_if (pt_cmpR op_lt (pv 1) pe_int (nomark _))
(pss_one (ps_ret (pe_c o_lowest hr (pa_cons (pe_op op_sub pe_int (pv 0)) (pa_cons (pe_op op_sub pe_int (pv 1)) pa_nil)))))
pss_nil)
(pss_one (ps_ret (pe_c o_lowest hr (pa_cons (pv 0) (pa_cons (pv 1) pa_nil))))))), ?_⟩
    refine ⟨_, rfl, _, _, rfl, h1, _, rfl, ?_⟩
    cases h1 with
    | int t =>
      refine iteF ⟨_, rfl, _, _, rfl, h2, _, rfl, ?_⟩
      cases h2 with
      | int b =>
        refine iteF ⟨_, rfl, rfl, _, rfl, ?_⟩
        rw [dec_int]
        by_cases c : b = 0
        · have e : (b == 0) = true := by simpa using c
          rw [e]
          refine iteT (kE ?_)
          show (!decide (b = 0)) = false
          rw [decide_eq_true c]
          rfl
        · have e : (b == 0) = false := by simpa using c
          rw [e]
          refine iteF ?_
          have kk := k t b rfl rfl c
          have bl : b.natAbs < 2 ^ 300 := ok2
          refine ⟨_, rfl, _, _, rfl, rfl, _, rfl, itd (fun c1 => ?_) fun c1 => ?_⟩
          · refine ⟨_, rfl, _, _, rfl, rfl, _, rfl, _, _, rfl, rfl, 0 - t, 0 - b, rfl, by omega, log_small (n := 300) (by decide) (by omega) (by decide), fun p H' hp s' h' => kk p H' hp s' ?_⟩
            unfold frT frB
            rw [if_pos c1, if_pos c1]
            exact h'
          · refine ⟨_, rfl, _, rfl, t, b, rfl, by omega, log_small (n := 300) (by decide) bl (by decide), fun p H' hp s' h' => kk p H' hp s' ?_⟩
            unfold frT frB
            rw [if_neg c1, if_neg c1]
            exact h'
      | _ => exact iteT (kE rfl)
    | _ => exact iteT (kE (by cases d2 <;> rfl))
end
end Dear

namespace Dear
open PySem PySem.Spec PyProof.Rows L2
/-! ### fractions written and read -/
def wholeN (m : Int) (l : List Nat) : Option Nat := if wholeOk m l then some (PySem.NumText.digitsVal l) else none
def optV : Option Nat → V
  | none => .non
  | some n => .int (n : Nat)
theorem wholeIn_opt (m : Int) (l : List Nat) : wholeIn m l = optV (wholeN m l) := by
  unfold wholeIn wholeN
  split <;> rfl
def finF (t b : Int) : Option (Int × Int) := if Int.gcd b t = 1 then some (t, b) else none
def sgnI (neg : Bool) (a : Nat) : Int := if neg then -(a : Int) else a
def fracNs (neg : Bool) : List (Option Nat) → Option (Int × Int)
  | [some a] => if neg && decide (a = 0) then none else finF (sgnI neg a) 1
  | [some a, some b] => if decide (b < 2) || (neg && decide (a = 0)) then none else finF (sgnI neg a) b
  | _ => none
def isNeg (l : List Nat) : Bool := decide (l.take 1 = [45])
def figsOf (l : List Nat) : List Nat := if isNeg l then l.drop 1 else l
def partsOf (l : List Nat) : List (List Nat) := TL.spl [47] 0 [] (figsOf l)
def fracIn (m : Int) (l : List Nat) : Option (Int × Int) := fracNs (isNeg l) ((partsOf l).map (wholeN m))
def spShow : Sp := fun vs H Q _ => ∃ (p : Addr) (t b : Int), vs = [.ref p] ∧ H p = some (.tup [.int t, .int b]) ∧ 0 < b ∧ t.natAbs < 2 ^ 250 ∧ b.natAbs < 2 ^ 250 ∧ Q (.str (txt (fracL t b))) H
def spWholeIn : Sp := fun vs H Q _ => ∃ (l : List Nat) (m : Int), vs = [.str (txt l), .int m] ∧ l.length ≤ 1000 ∧ 0 ≤ m ∧ m ≤ 600 ∧ ∀ H', Same H H' → Q (wholeIn m l) H'
def spFracIn : Sp := fun vs H Q _ => ∃ (l : List Nat) (m : Int), vs = [.str (txt l), .int m] ∧ l.length ≤ 900 ∧ 0 ≤ m ∧ m ≤ 60 ∧ (fracIn m l = none → ∀ H', Same H H' → Q .non H') ∧
  ∀ x, fracIn m l = some x → ∀ (p : Addr) (H' : Hp), Same H H' → H' p = some (.tup [.int x.1, .int x.2]) → Q (.ref p) H'
theorem str_int {t : Int} : Str.ofString (toString t) = txt ((if t < 0 then [45] else []) ++ figL t.natAbs) := by
  by_cases h : t < 0
  · rw [if_pos h]
    have e : t = -((t.natAbs : Nat) : Int) := by omega
    rw [e, str_neg (by omega), Int.natAbs_neg, Int.natAbs_natCast]
    rfl
  · rw [if_neg h]
    have e : t = ((t.natAbs : Nat) : Int) := by omega
    rw [e, str_num, Int.natAbs_natCast]
    rfl
theorem fig_len250 {n : Nat} (h : n < 2 ^ 250) : (figL n).length ≤ 100 := fig_len (by decide) (Nat.lt_of_lt_of_le h (by decide))
theorem wholeOk_len {m : Int} {l : List Nat} (h : wholeOk m l = true) : 1 ≤ l.length ∧ (l.length : Int) ≤ m := by
  unfold wholeOk at h
  rw [Bool.and_eq_true, Bool.and_eq_true, decide_eq_true_eq] at h
  omega
theorem val_lt : ∀ {l : List Nat}, (∀ c ∈ l, c ≤ 57) → PySem.NumText.digitsVal l < 10 ^ l.length := by
  have key : ∀ (l : List Nat) (acc k : Nat), acc < 10 ^ k → (∀ c ∈ l, c ≤ 57) → l.foldl (fun acc c => acc * 10 + (c - 48)) acc < 10 ^ (k + l.length) := by
    intro l
    induction l with
    | nil =>
      intro acc k h _
      exact h
    | cons c r ih =>
      intro acc k h hc
      have h1 := hc c List.mem_cons_self
      have h2 : acc * 10 + (c - 48) < 10 ^ (k + 1) := by
        rw [Nat.pow_succ]
        omega
      have := ih (acc * 10 + (c - 48)) (k + 1) h2 fun x hx => hc x (List.mem_cons_of_mem _ hx)
      rw [List.length_cons, show k + (r.length + 1) = k + 1 + r.length by omega]
      exact this
  intro l h
  have := key l 0 0 (by decide) h
  rw [Nat.zero_add] at this
  exact this
theorem whole_lt {l : List Nat} {n : Nat} {m : Int} (h : wholeN m l = some n) (hm : m ≤ 60) : n < 2 ^ 250 := by
  unfold wholeN at h
  split at h
  · rename_i ok
    injection h with h
    subst h
    have hl := wholeOk_len ok
    unfold wholeOk at ok
    rw [Bool.and_eq_true, List.all_eq_true] at ok
    have := val_lt (l := l) fun c hc => (in_fig (of_decide_eq_true (ok.2 c hc))).2
    refine Nat.lt_of_lt_of_le this (Nat.le_trans (Nat.pow_le_pow_right (by decide) (show l.length ≤ 60 by omega)) (by decide))
  · cases h
theorem spl_ne (S : List Nat) : ∀ (l : List Nat) (k : Nat) (acc : List Nat), TL.spl S k acc l ≠ []
  | [], k, acc => by
    rw [TL.spl_nil]
    exact List.cons_ne_nil _ _
  | c :: r, 0, acc => by
    by_cases h : TL.pre S (c :: r) = true
    · rw [TL.spl_hit h]
      exact List.cons_ne_nil _ _
    · rw [TL.spl_miss (by simpa using h)]
      exact spl_ne S r 0 _
  | _ :: r, k + 1, acc => spl_ne S r k acc
theorem spl_len (S : List Nat) : ∀ (l : List Nat) (k : Nat) (acc : List Nat), (TL.spl S k acc l).length ≤ l.length + 1 ∧ ∀ p ∈ TL.spl S k acc l, p.length ≤ acc.length + l.length
  | [], k, acc => by
    rw [TL.spl_nil]
    refine ⟨Nat.le_refl _, fun p hp => ?_⟩
    have : p = acc := by simpa using hp
    subst this
    exact Nat.le_refl _
  | c :: r, 0, acc => by
    by_cases h : TL.pre S (c :: r) = true
    · rw [TL.spl_hit h]
      obtain ⟨h1, h2⟩ := spl_len S r (S.length - 1) []
      refine ⟨Nat.succ_le_succ h1, fun p hp => ?_⟩
      rw [List.length_cons]
      rcases List.mem_cons.mp hp with rfl | hp
      · omega
      · have := h2 p hp
        rw [List.length_nil] at this
        omega
    · rw [TL.spl_miss (by simpa using h)]
      obtain ⟨h1, h2⟩ := spl_len S r 0 (acc ++ [c])
      refine ⟨Nat.le_succ_of_le h1, fun p hp => ?_⟩
      have := h2 p hp
      rw [List.length_append] at this
      rw [List.length_cons]
      have this : p.length ≤ acc.length + 1 + r.length := this
      omega
  | c :: r, k + 1, acc => by
    obtain ⟨h1, h2⟩ := spl_len S r k acc
    refine ⟨Nat.le_succ_of_le h1, fun p hp => ?_⟩
    have := h2 p hp
    rw [List.length_cons]
    omega
theorem flat_opt (os : List (Option Nat)) : (os.map optV).all flatV = true := by
  rw [List.all_eq_true]
  intro x hx
  obtain ⟨o, _, rfl⟩ := List.mem_map.mp hx
  cases o <;> rfl
section
variable {P : Program} {w : World} {K : PySem.W.Frag} {mg : Str → Option Value} {base : Heap}
theorem o_whole_in (T : Txt K mg) : OkF P w K mg base CX0 1 "whole_in" ["word", "most"] spWholeIn := by
  refine T.f_whole_in.ok c_whole_in (fun vs H Q E h => ?_) (fun f cdv A outer s H vs Q E hr h => ?_)
  · obtain ⟨l, m, rfl, _⟩ := h
    rfl
  · obtain ⟨l, m, rfl, ll, m0, m9, k⟩ := h
    refine ⟨_, (C8.pss_cut (ps_if (PW.pt (pw_or (pt_not (pt_chain op_le op_le pe_int (pe_callB call_len_str (by rfl) T.b_len PySem.boot_len (pa_cons (pv 0) pa_nil)) (pv 1))) (pw_or1 (PW.pt (pw_and (pt_cmpR op_gt (pe_callB call_len_str (by rfl) T.b_len PySem.boot_len (pa_cons (pv 0) pa_nil)) pe_int (nomark _)) (pw_and1 (pt_cmpR op_eq (pe_ix ix_str (pv 0) pe_int (fun _ _ => rfl)) pe_str (nomark _))))))))
(pss_one (ps_ret pe_non))
pss_nil)
(C8.pss_cut (ps_if (pt_not (pt_val (pe_callB (cr_all_k K rfl) (by rfl) T.b_all (by decide +kernel) (pa_cons (pe_lc (own := [("sign", 2)]) (g := gName 2) (tt := tYes) (by rfl) c_whole_in.nd (pi_str (pv 0)) (blkOk_by (own := [("sign", 2)]) (N := n_whole_in) (sc := defScope s_whole_in) (by decide +kernel)) (fun _ _ _ _ _ => (pg_name (i := 2) c_whole_in.nd rfl (Or.inl rfl))) (fun _ _ _ _ _ => pts_nil) (fun _ _ _ _ _ => (pe_cmpR op_in_sign (pv 2) (pe_gs T.g_FIGURES) rfl))) pa_nil))))
(pss_one (ps_ret pe_non))
pss_nil)
(pss_one (ps_ret (pe_callTy call_int_str (by rfl) T.b_int (by decide +kernel) (pa_cons (pv 0) pa_nil)))))), ?_⟩
    have hz : (txt l).length ≤ sizeLine := sz_lit (by rw [txt_length]; exact ll)
    have tl := txt_length l
    have no : wholeOk m l = false → ∀ H', Same H H' → Q .non H' := fun e H' s => by
      have := k H' s
      unfold wholeIn at this
      rw [e] at this
      exact this
    refine ⟨fun σ' H' => σ' = [some (.str (txt l)), some (.int m), none] ∧ H' = H ∧ (1 ≤ (l.length : Int) ∧ (l.length : Int) ≤ m) ∧ (decide (1 < l.length) && decide (l.head? = some 48)) = false, ?_, ?_⟩
    · refine ⟨_, rfl, _, rfl, hz, _, _, rfl, rfl, _, rfl, itd (fun c1 => ?_) fun c1 => ?_⟩
      · refine ⟨_, rfl, _, _, rfl, rfl, _, rfl, itnd (fun c2 => ?_) fun c2 => ?_⟩
        · refine no ?_ H (Same.refl H)
          unfold wholeOk
          rw [decide_eq_false fun q => c2 (by rw [tl]; exact q.2)]
          rfl
        have c2 : ((txt l).length : Int) ≤ m := c2
        have c1 : (1 : Int) ≤ ((txt l).length : Int) := c1
        have lm : 1 ≤ (l.length : Int) ∧ (l.length : Int) ≤ m := by omega
        refine ⟨_, rfl, _, rfl, hz, _, _, rfl, rfl, _, rfl, itd (fun c3 => ?_) fun c3 => ?_⟩
        · have c3 : (1 : Int) < ((txt l).length : Int) := c3
          cases l with
          | nil => exact absurd c3 (by decide)
          | cons c r =>
            refine ⟨_, rfl, _, _, c, rfl, rfl, hz, (by rw [txt_list]; exact atI_nat (j := 0) rfl), rfl, _, rfl, itd (fun c4 => ?_) fun c4 => ?_⟩
            · refine no ?_ H (Same.refl H)
              have e4 : c = 48 := by
                injection c4 with c4
                have := txt_inj (show txt [c] = txt [48] from c4.trans (by decide +kernel))
                simpa using this
              subst e4
              unfold wholeOk
              rw [decide_eq_true (show 1 < (48 :: r).length by omega), decide_eq_true lm]
              rfl
            · refine ⟨rfl, rfl, lm, ?_⟩
              have e4 : ¬ (c :: r).head? = some 48 := fun z => c4 (by
                injection z with z
                subst z
                have : (⟨#[48]⟩ : Str) = "0" := by decide +kernel
                rw [this])
              rw [decide_eq_false e4, Bool.and_false]
        · refine ⟨rfl, rfl, lm, ?_⟩
          have c3 : ¬ (1 : Int) < ((txt l).length : Int) := c3
          rw [decide_eq_false (show ¬ 1 < l.length by omega)]
          rfl
      · refine ⟨_, rfl, iteT (no ?_ H (Same.refl H))⟩
        unfold wholeOk
        rw [decide_eq_false fun q => c1 (by rw [tl]; exact q.1)]
        rfl
    rintro σ' H' ⟨rfl, rfl, lm, hh⟩
    refine ⟨fun σ' H9 => σ' = [some (.str (txt l)), some (.int m), none] ∧ Same H' H9 ∧ wholeOk m l = true, ?_, ?_⟩
    · refine ⟨_, rfl, _, rfl, fun pD hD => lc_it (walk_str (z := txt l)) (fun i H9 => ∃ bs : List Bool, bs = (l.take i).map (fun c => decide (c ∈ figures.cps.toList)) ∧ H9 = upd H' pD (.lst (bs.map V.bl))) ⟨[], rfl, rfl⟩ (fun _ _ _ _ => trivial) ?_ ?_⟩
      · rintro i x H1 H2 hi ⟨bs, eb, rfl⟩ ⟨rfl, c, hc, rfl⟩
        have hc' : l[i]? = some c := by
          rw [← txt_list l, Array.getElem?_toList]
          exact hc
        refine ⟨rfl, _, rfl, _, _, rfl, rfl, _, upd_same, ?_, bs ++ [decide (c ∈ figures.cps.toList)], ?_, ?_⟩
        · rw [List.length_map, eb, List.length_map, List.length_take]
          exact small1000 (by omega)
        · rw [eb, take_more hc', List.map_append]
          rfl
        · rw [upd_upd, List.map_append]
          rfl
      · rintro H1 ⟨bs, eb, rfl⟩
        refine ⟨pD, bs, rfl, SqL.of upd_same, ?_⟩
        have e4 : bs.all id = l.all fun c => decide (c ∈ figures.cps.toList) := by
          rw [eb, show (txt l).cps.size = l.length from txt_length l, List.take_length, List.all_map]
          rfl
        rw [e4]
        have ew : wholeOk m l = l.all fun c => decide (c ∈ figures.cps.toList) := by
          unfold wholeOk
          rw [decide_eq_true lm, hh]
          rfl
        rw [← ew]
        cases e5 : wholeOk m l with
        | false => exact ⟨_, rfl, iteT (no e5 _ (Same.upd hD))⟩
        | true => exact ⟨_, rfl, iteF ⟨rfl, Same.upd hD, rfl⟩⟩
    rintro σ' H9 ⟨rfl, s9, ok⟩
    refine ⟨_, rfl, txt l, _, rfl, int_text ok m9, by rw [tl]; omega, ?_⟩
    have fin := k H9 s9
    unfold wholeIn at fin
    rw [if_pos ok] at fin
    exact fin
theorem neg_ne {l : List Nat} (h : isNeg l = true) : l ≠ [] ∧ l = 45 :: l.drop 1 := by
  unfold isNeg at h
  have h := of_decide_eq_true h
  cases l with
  | nil => cases h
  | cons c r =>
    have : c = 45 := by simpa using h
    subst this
    exact ⟨List.cons_ne_nil _ _, rfl⟩
theorem frac_fin {t b : Int} (hb : 0 < b) : PyData.eqv (.tuple [.int (frT t b), .int (frB t b)]) (.tuple [.int t, .int b]) = decide (Int.gcd b t = 1) := by
  have e1 : frT t b = lowT t b := by
    unfold frT
    rw [if_neg (by omega)]
  have e2 : frB t b = lowB t b := by
    unfold frB
    rw [if_neg (by omega)]
  rw [e1, e2]
  have e3 : PyData.eqv (.tuple [.int (lowT t b), .int (lowB t b)]) (.tuple [.int t, .int b]) = ((lowT t b == t) && (lowB t b == b)) := by simp [PyData.eqv, PyData.eqvAll]
  rw [e3, low_eq hb]
  by_cases z : Int.gcd b t = 1
  · rw [z]
    rfl
  · rw [decide_eq_false z]
    simpa using z
theorem shaped_tt (a b : Int) : SeqAt.shaped (.tuple [.int a, .int b]) = true := by
  simp [SeqAt.shaped, PyData.canLay0, PyData.canLayAll0, PyData.depth, PyData.depthAll]
theorem o_fraction_in (T : Txt K mg) : OkF P w K mg base CX0 4 "fraction_in" ["word", "most"] spFracIn := by
  have o_whole_in := o_whole_in (P := P) (w := w) (base := base) T
  have o_fraction := o_fraction (P := P) (w := w) (base := base) T
  refine T.f_fraction_in.ok c_fraction_in (fun vs H Q E h => ?_) (fun f cdv A outer s H vs Q E hr h => ?_)
  · obtain ⟨l, m, rfl, _⟩ := h
    rfl
  · obtain ⟨l, m, rfl, ll, m0, m60, kN, kS⟩ := h
    refine ⟨_, (pss_cons (ps_set (i := 2) c_fraction_in.nd rfl (Or.inl rfl) (pv 0))
(C8.pss_cut (ps_if (pt_cmpR op_eq (pe_slice sl_str (pv 0) po_none (po_some pe_int)) pe_str (nomark _))
(pss_one (ps_set (i := 2) c_fraction_in.nd rfl (Or.inl rfl) (pe_slice sl_str (pv 0) (po_some pe_int) po_none)))
pss_nil)
(pss_cons (ps_setLc (i := 3) (own := [("part", 5)]) (g := gName 5) (tt := tYes) (by rfl) c_fraction_in.nd rfl rfl (sw_true rfl rfl rfl (by decide +kernel)) (pi_list_k K (pe_split (pv 2) pe_str)) (blkOk_by (own := [("part", 5)]) (N := n_fraction_in) (sc := defScope s_fraction_in) (by decide +kernel)) (fun _ _ _ _ _ => (pg_name (i := 5) c_fraction_in.nd rfl (Or.inl rfl))) (fun _ _ _ _ _ => pts_nil) (fun _ _ _ _ _ => (pe_c o_whole_in hr (pa_cons (pv 5) (pa_cons (pv 1) pa_nil)))))
(C8.pss_cut (ps_if (PW.pt (pw_or (pt_cmpR (op_in_seq_k K) pe_non (pv 3) rfl) (pw_or1 (pt_cmpR op_gt (pe_callB (call_len_seq_k K) (by rfl) T.b_len PySem.boot_len (pa_cons (pv 3) pa_nil)) pe_int (nomark _)))))
(pss_one (ps_ret pe_non))
pss_nil)
(C8.pss_cut (ps_if (PW.pt (pw_or (PW.pt (pw_and (pt_cmpR op_eq (pe_callB (call_len_seq_k K) (by rfl) T.b_len PySem.boot_len (pa_cons (pv 3) pa_nil)) pe_int (nomark _)) (pw_and1 (pt_cmpR op_lt (pe_ix (ix_list_k K) (pv 3) pe_int (fun _ _ => rfl)) pe_int (nomark _))))) (pw_or1 (PW.pt (pw_and (pt_cmpR op_ne (pv 2) (pv 0) (nomark _)) (pw_and1 (pt_cmpR op_eq (pe_ix (ix_list_k K) (pv 3) pe_int (fun _ _ => rfl)) pe_int (nomark _))))))))
(pss_one (ps_ret pe_non))
pss_nil)
(pss_cons (ps_set (i := 4) c_fraction_in.nd rfl (Or.inl rfl) (pe_tup (pa_cons (pe_ix (ix_list_k K) (pv 3) pe_int (fun _ _ => rfl)) (pa_cons (pe_ix (ix_list_k K) (pe_op op_cat (pv 3) (pe_lst (pa_cons pe_int pa_nil))) pe_int (fun _ _ => rfl)) pa_nil))))
(C8.pss_cut (ps_if (pt_cmpR op_ne (pv 2) (pv 0) (nomark _))
(pss_one (ps_set (i := 4) c_fraction_in.nd rfl (Or.inl rfl) (pe_tup (pa_cons (pe_op op_sub pe_int (pe_ix (ix_tup_k K) (pv 4) pe_int (fun _ _ => rfl))) (pa_cons (pe_ix (ix_tup_k K) (pv 4) pe_int (fun _ _ => rfl)) pa_nil)))))
pss_nil)
(C8.pss_cut (ps_if (pt_cmpR (op_neD_k K hr.units) (pe_cxn o_fraction hr takes0 (pa_cons (pe_ix (ix_tup_k K) (pv 4) pe_int (fun _ _ => rfl)) (pa_cons (pe_ix (ix_tup_k K) (pv 4) pe_int (fun _ _ => rfl)) pa_nil))) (pv 4) (nomark _))
(pss_one (ps_ret pe_non))
pss_nil)
(pss_one (ps_ret (pv 4))))))))))), ?_⟩
    have hz : (txt l).length ≤ sizeLine := sz_lit (by rw [txt_length]; omega)
    have flen : (figsOf l).length ≤ l.length := by
      unfold figsOf
      split
      · rw [List.length_drop]
        omega
      · exact Nat.le_refl _
    refine ⟨_, rfl, fun σ' H' => H' = H ∧ σ' = [some (.str (txt l)), some (.int m), some (.str (txt (figsOf l))), none, none, none], ?_, ?_⟩
    · refine ⟨_, rfl, _, rfl, _, rfl, hz, ?_⟩
      rw [show cutS (txt l) none (some 1) = txt (l.take 1) from cut_pre l 1]
      refine ⟨rfl, _, rfl, itd (fun e => ?_) fun e => ?_⟩
      · have en : isNeg l = true := decide_eq_true (by
          injection e with e
          exact txt_inj (e.trans (by decide +kernel : ("-" : Str) = txt [45])))
        refine ⟨_, rfl, _, rfl, _, rfl, hz, rfl, ?_⟩
        rw [show cutS (txt l) (some 1) none = txt (l.drop 1) from cut_from l 1]
        unfold figsOf
        rw [if_pos en]
        rfl
      · have en : isNeg l = false := decide_eq_false fun z => e (by
          rw [z]
          exact congrArg V.str (by decide +kernel : txt [45] = ("-" : Str)))
        refine ⟨rfl, ?_⟩
        unfold figsOf
        rw [if_neg (by rw [en]; decide)]
        rfl
    rintro σ' H' ⟨rfl, rfl⟩
    have hzf : (txt (figsOf l)).length + 2 ≤ sizeLine := sz_lit (by rw [txt_length]; omega)
    have psp : Txt.split (txt (figsOf l)) "/" = (partsOf l).map txt := split_txt rfl
    obtain ⟨pl1, pl2⟩ := spl_len [47] (figsOf l) 0 []
    have pl1 : (partsOf l).length ≤ (figsOf l).length + 1 := pl1
    have pl2 : ∀ p ∈ partsOf l, p.length ≤ l.length := fun p hp => by
      have := pl2 p hp
      rw [List.length_nil] at this
      omega
    refine ⟨_, rfl, ⟨_, rfl⟩, txt (figsOf l), "/", rfl, rfl, (by decide +kernel), hzf, fun pS hS => ?_⟩
    rw [psp]
    have sS := Same.upd (o := .lst (((partsOf l).map txt).map V.str)) hS
    have eS : (upd H' pS (.lst (((partsOf l).map txt).map V.str))) pS = some (.lst (((partsOf l).map txt).map V.str)) := upd_same
    generalize upd H' pS (.lst (((partsOf l).map txt).map V.str)) = H1 at sS eS ⊢
    refine ⟨pS, rfl, ⟨_, SqL.of eS⟩, fun pD hD => lc_list (K := K) (a := pS) (xs := ((partsOf l).map txt).map V.str) (fun i H9 => Same H1 H9 ∧ H9 pD = some (.lst ((((partsOf l).take i).map (wholeN m)).map optV))) ⟨Same.upd hD, upd_same⟩ (fun i H9 _ e => SqL.of (e.1 _ _ eS)) ?_ ?_⟩
    · rintro i x H9 hx ⟨s9, e9⟩
      obtain ⟨p, hp, rfl⟩ : ∃ p, (partsOf l)[i]? = some p ∧ x = .str (txt p) := by
        rw [List.map_map, List.getElem?_map] at hx
        cases q9 : (partsOf l)[i]? with
        | none => rw [q9] at hx; cases hx
        | some p => rw [q9] at hx; exact ⟨p, rfl, (Option.some.inj hx).symm⟩
      have hpm := pl2 p (List.mem_of_getElem? hp)
      refine ⟨rfl, _, rfl, _, rfl, p, m, rfl, by omega, m0, by omega, fun H10 s10 => ?_⟩
      rw [wholeIn_opt]
      refine ⟨_, s10 _ _ e9, ?_, ?_, ?_⟩
      · rw [List.length_map, List.length_map, List.length_take]
        exact small1000 (by omega)
      · intro b o hb
        rw [upd_ne (ne_of_none hb hD)]
        exact s10 _ _ (s9 _ _ hb)
      · rw [upd_same, take_more hp, List.map_append, List.map_append]
        rfl
    rintro H2 ⟨s2, e2⟩
    rw [List.length_map, List.length_map, List.take_length] at e2
    have s02 := sS.trans s2
    have kN : fracNs (isNeg l) ((partsOf l).map (wholeN m)) = none → ∀ H9, Same H' H9 → Q .non H9 := kN
    have kS : ∀ x, fracNs (isNeg l) ((partsOf l).map (wholeN m)) = some x → ∀ (p : Addr) (H9 : Hp), Same H' H9 → H9 p = some (.tup [.int x.1, .int x.2]) → Q (.ref p) H9 := kS
    have small : ∀ n : Nat, some n ∈ (partsOf l).map (wholeN m) → n < 2 ^ 250 := fun n hn => by
      obtain ⟨p, _, hp⟩ := List.mem_map.mp hn
      exact whole_lt hp m60
    have nonE : (partsOf l).map (wholeN m) ≠ [] := fun z => spl_ne [47] (figsOf l) 0 [] (List.map_eq_nil_iff.mp z)
    have lenE : ((partsOf l).map (wholeN m)).length ≤ 1000 := by rw [List.length_map]; omega
    have nw : isNeg l = true → ¬ V.str (txt (figsOf l)) = V.str (txt l) := fun e z => by
      injection z with z
      have z := txt_inj z
      unfold figsOf at z
      rw [if_pos e] at z
      have := congrArg List.length z
      obtain ⟨h1, h2⟩ := neg_ne e
      rw [List.length_drop] at this
      have := List.length_pos_iff.mpr h1
      omega
    have pw : isNeg l = false → V.str (txt (figsOf l)) = V.str (txt l) := fun e => by
      unfold figsOf
      rw [if_neg (by rw [e]; decide)]
    clear psp pl1 pl2 flen hzf eS
    generalize (partsOf l).map (wholeN m) = os at e2 kN kS small nonE lenE
    generalize txt (figsOf l) = zf at nw pw ⊢
    -- None in numbers, or more than two
    refine ⟨fun σ' H9 => H9 = H2 ∧ σ' = [some (.str (txt l)), some (.int m), some (.str zf), some (.ref pD), none, none] ∧ ∃ (a : Nat) (bo : Option Nat), os = some a :: bo.toList.map some, ?_, ?_⟩
    · refine ⟨_, rfl, _, _, rfl, .inl (SqL.of e2), rfl, flat_opt os, ?_⟩
      match os, nonE with
      | [some a], _ => exact ⟨_, rfl, iteF ⟨_, rfl, _, _, rfl, .inl (SqL.of e2), _, _, rfl, rfl, _, rfl, iteF ⟨rfl, rfl, a, none, rfl⟩⟩⟩
      | [none], _ => exact ⟨_, rfl, iteT (kN rfl H2 s02)⟩
      | [some a, some b], _ => exact ⟨_, rfl, iteF ⟨_, rfl, _, _, rfl, .inl (SqL.of e2), _, _, rfl, rfl, _, rfl, iteF ⟨rfl, rfl, a, some b, rfl⟩⟩⟩
      | [none, _], _ => exact ⟨_, rfl, iteT (kN rfl H2 s02)⟩
      | [some a, none], _ => exact ⟨_, rfl, iteT (kN rfl H2 s02)⟩
      | x :: y :: z :: r, _ =>
        have kN := kN (by cases x <;> cases y <;> rfl)
        refine ⟨_, rfl, itb (fun _ => kN H2 s02) fun _ => ⟨_, rfl, _, _, rfl, .inl (SqL.of e2), _, _, rfl, rfl, _, rfl, itd (fun _ => kN H2 s02) fun c => absurd ?_ c⟩⟩
        show (2 : Int) < (((x :: y :: z :: r).map optV).length : Int)
        rw [List.length_map]
        show (2 : Int) < ((r.length + 3 : Nat) : Int)
        omega
    rintro σ' H9 ⟨rfl, rfl, a, bo, eo⟩
    subst eo
    have sa : a < 2 ^ 250 := small a List.mem_cons_self
    have sb : bo.getD 1 < 2 ^ 250 := by
      cases bo with
      | none => exact Nat.lt_of_lt_of_le (by decide : 1 < 2) (by decide)
      | some b => exact small b (List.mem_cons_of_mem _ List.mem_cons_self)
    clear small nonE lenE
    refine ⟨fun σ' H3 => H3 = H9 ∧ σ' = [some (.str (txt l)), some (.int m), some (.str zf), some (.ref pD), none, none] ∧ fracNs (isNeg l) (some a :: bo.toList.map some) = finF (sgnI (isNeg l) a) ((bo.getD 1 : Nat) : Int) ∧ 0 < bo.getD 1, ?_, ?_⟩
    · have second : (isNeg l && decide (a = 0)) = true → fracNs (isNeg l) (some a :: bo.toList.map some) = none := fun e => by
        cases bo with
        | none =>
          show (if (isNeg l && decide (a = 0)) = true then none else _) = none
          rw [e]
          rfl
        | some b =>
          show (if (decide (b < 2) || (isNeg l && decide (a = 0))) = true then none else _) = none
          rw [e, Bool.or_true]
          rfl
      have third : (isNeg l && decide (a = 0)) = false → 2 ≤ bo.getD 2 → fracNs (isNeg l) (some a :: bo.toList.map some) = finF (sgnI (isNeg l) a) ((bo.getD 1 : Nat) : Int) ∧ 0 < bo.getD 1 := fun e h2 => by
        cases bo with
        | none =>
          refine ⟨?_, Nat.one_pos⟩
          show (if (isNeg l && decide (a = 0)) = true then none else _) = _
          rw [e]
          rfl
        | some b =>
          have h2 : 2 ≤ b := h2
          refine ⟨?_, by show 0 < b; omega⟩
          show (if (decide (b < 2) || (isNeg l && decide (a = 0))) = true then none else _) = _
          rw [e, decide_eq_false (by omega)]
          rfl
      cases bo with
      | none =>
        refine ⟨_, rfl, _, _, rfl, .inl (SqL.of e2), rfl, _, rfl, itd (fun e => absurd (show (1 : Int) = 2 by injection e) (by decide)) fun _ => iteF ?_⟩
        refine ⟨_, rfl, _, rfl, rfl, _, rfl, itnd (fun e => ?_) fun e => ?_⟩
        · have en : isNeg l = true := by
            cases q : isNeg l with
            | true => rfl
            | false => exact absurd (pw q) e
          refine ⟨_, rfl, _, _, _, _, rfl, rfl, SqL.of e2, rfl, rfl, _, rfl, itd (fun e0 => ?_) fun e0 => ?_⟩
          · have e0 : (a : Int) = 0 := by injection e0
            exact kN (second (by rw [en, decide_eq_true (show a = 0 by omega)]; rfl)) _ s02
          · refine ⟨rfl, rfl, third ?_ (Nat.le_refl _)⟩
            rw [en, decide_eq_false fun z => e0 (by show V.int (a : Int) = V.int 0; rw [z]; rfl)]
            rfl
        · refine ⟨rfl, rfl, third ?_ (Nat.le_refl _)⟩
          have en : isNeg l = false := by
            cases q : isNeg l with
            | false => rfl
            | true => exact absurd e (nw q)
          rw [en]
          rfl
      | some b =>
        refine ⟨_, rfl, _, _, rfl, .inl (SqL.of e2), rfl, _, rfl, itd (fun _ => ?_) fun e => absurd rfl e⟩
        refine ⟨_, rfl, _, _, _, _, rfl, rfl, SqL.of e2, rfl, _, _, rfl, rfl, _, rfl, itd (fun e => ?_) fun e => ?_⟩
        · have e : (b : Int) < 2 := e
          refine iteT (kN ?_ _ s02)
          show (if (decide (b < 2) || (isNeg l && decide (a = 0))) = true then none else _) = none
          rw [decide_eq_true (by omega)]
          rfl
        have e : ¬ (b : Int) < 2 := e
        refine ⟨_, rfl, _, rfl, rfl, _, rfl, itnd (fun e => ?_) fun e => ?_⟩
        · have en : isNeg l = true := by
            cases q : isNeg l with
            | true => rfl
            | false => exact absurd (pw q) e
          refine ⟨_, rfl, _, _, _, _, rfl, rfl, SqL.of e2, rfl, rfl, _, rfl, itd (fun e0 => ?_) fun e0 => ?_⟩
          · have e0 : (a : Int) = 0 := by injection e0
            exact kN (second (by rw [en, decide_eq_true (show a = 0 by omega)]; rfl)) _ s02
          · refine ⟨rfl, rfl, third ?_ (by show 2 ≤ b; omega)⟩
            rw [en, decide_eq_false fun z => e0 (by show V.int (a : Int) = V.int 0; rw [z]; rfl)]
            rfl
        · refine ⟨rfl, rfl, third ?_ (by show 2 ≤ b; omega)⟩
          have en : isNeg l = false := by
            cases q : isNeg l with
            | false => rfl
            | true => exact absurd e (nw q)
          rw [en]
          rfl
    rintro σ' H3 ⟨rfl, rfl, ef, b0⟩
    rw [ef] at kN kS
    clear ef
    have vl : ((some a :: bo.toList.map some).map optV).length ≤ 2 := by
      cases bo with
      | none => exact Nat.le_succ 1
      | some b => exact Nat.le_refl 2
    have va : atI ((some a :: bo.toList.map some).map optV) 0 = some (.int (a : Nat)) := by cases bo <;> rfl
    have vb : atI ((some a :: bo.toList.map some).map optV ++ [.int 1]) 1 = some (.int ((bo.getD 1 : Nat) : Int)) := by cases bo <;> rfl
    generalize (some a :: bo.toList.map some).map optV = vs9 at e2 vl va vb
    generalize bo.getD 1 = bn at b0 sb vb kN kS
    refine ⟨_, rfl, _, _, _, _, rfl, rfl, SqL.of e2, va, _, rfl, (by show 1 ≤ sizeLine; decide), fun p1 hp1 => ?_⟩
    have u1 := Same.upd (o := .lst [.int 1]) hp1
    refine ⟨pD, p1, _, _, rfl, rfl, u1 _ _ e2, upd_same, sz_lit (by show _ + 1 ≤ 1000; omega), fun p2 hp2 => ?_⟩
    have u2 := Same.upd (o := .lst (vs9 ++ [.int 1])) hp2
    refine ⟨_, _, _, _, rfl, rfl, SqL.of upd_same, vb, (by show 2 ≤ sizeLine; decide), fun p3 hp3 => ?_⟩
    have u3 := Same.upd (o := .tup [.int (a : Nat), .int (bn : Nat)]) hp3
    have s3 := s02.trans ((u1.trans u2).trans u3)
    have e3 : (upd (upd (upd H3 p1 (.lst [.int 1])) p2 (.lst (vs9 ++ [.int 1]))) p3 (.tup [.int (a : Nat), .int (bn : Nat)])) p3 = some (.tup [.int (a : Nat), .int (bn : Nat)]) := upd_same
    generalize upd (upd (upd H3 p1 (.lst [.int 1])) p2 (.lst (vs9 ++ [.int 1]))) p3 (.tup [.int (a : Nat), .int (bn : Nat)]) = H4 at s3 e3 ⊢
    clear u1 u2 u3
    refine ⟨fun σ' H5 => Same H' H5 ∧ ∃ p5 : Addr, σ' = [some (.str (txt l)), some (.int m), some (.str zf), some (.ref pD), some (.ref p5), none] ∧ H5 p5 = some (.tup [.int (sgnI (isNeg l) a), .int (bn : Nat)]), ?_, ?_⟩
    · refine ⟨_, rfl, _, rfl, rfl, _, rfl, itnd (fun e => ?_) fun e => ?_⟩
      · have en : isNeg l = true := by
          cases q : isNeg l with
          | true => rfl
          | false => exact absurd (pw q) e
        refine ⟨_, rfl, _, _, _, _, rfl, rfl, SqT.of e3, rfl, _, _, rfl, rfl, _, rfl, _, _, _, _, rfl, rfl, SqT.of e3, rfl, (by show 2 ≤ sizeLine; decide), fun p5 hp5 => ⟨s3.trans (Same.upd hp5), p5, rfl, ?_⟩⟩
        rw [upd_same, en]
        show some (HO.tup [V.int (0 - (a : Int)), _]) = some (HO.tup [V.int (-(a : Int)), _])
        rw [Int.zero_sub]
      · have en : isNeg l = false := by
          cases q : isNeg l with
          | false => rfl
          | true => exact absurd e (nw q)
        refine ⟨s3, p3, rfl, ?_⟩
        rw [e3, en]
        rfl
    rintro σ' H5 ⟨s5, p5, rfl, e5⟩
    have sm : (sgnI (isNeg l) a).natAbs = a := by
      unfold sgnI
      split <;> omega
    generalize sgnI (isNeg l) a = tt at e5 kN kS sm
    have okb : Ok (.int (bn : Nat)) := by
      show ((bn : Nat) : Int).natAbs < 2 ^ 300
      rw [Int.natAbs_natCast]
      exact Nat.lt_of_lt_of_le sb (Nat.pow_le_pow_right (by decide) (by decide))
    refine ⟨fun σ' H6 => Same H' H6 ∧ σ' = [some (.str (txt l)), some (.int m), some (.str zf), some (.ref pD), some (.ref p5), none] ∧ H6 p5 = some (.tup [.int tt, .int (bn : Nat)]) ∧ finF tt (bn : Nat) = some (tt, ((bn : Nat) : Int)), ?_, fun σ' H6 ⟨s6, es, e6, ef⟩ => by subst es; exact ⟨_, rfl, kS _ ef p5 H6 s6 e6⟩⟩
    refine ⟨_, rfl, _, _, _, _, rfl, rfl, SqT.of e5, rfl, _, rfl, _, _, _, _, rfl, rfl, SqT.of e5, rfl, _, _, .int tt, .int (bn : Nat), rfl, .int _, .int _, okb, fun t b h1 h2 nb p6 H6 hp6 s6 h6 => ?_, fun e => ?_⟩
    · injection h1 with h1
      injection h2 with h2
      subst h1
      subst h2
      refine ⟨_, rfl, _, _, .tup (SqT.of h6) (.cons (.int _) (.cons (.int _) .nil)), .tup (SqT.of (s6 _ _ e5)) (.cons (.int _) (.cons (.int _) .nil)), shaped_tt _ _, shaped_tt _ _, ?_⟩
      rw [frac_fin (by omega)]
      have s06 := s5.trans s6
      by_cases g : Int.gcd ((bn : Nat) : Int) tt = 1
      · rw [decide_eq_true g]
        exact ⟨_, rfl, iteF ⟨s06, rfl, s6 _ _ e5, if_pos g⟩⟩
      · rw [decide_eq_false g]
        exact ⟨_, rfl, iteT (kN (if_neg g) H6 s06)⟩
    · have e : (!decide (((bn : Nat) : Int) = 0)) = false := e
      rw [decide_eq_false (by omega)] at e
      cases e
end
end Dear

namespace Dear
open PySem PySem.Spec PyProof.Rows L2
theorem wholeN_fig {n : Nat} (h : n < 10 ^ 60) : wholeN 60 (figL n) = some n := by
  have e := whole_fig h
  rw [wholeIn_opt] at e
  cases q : wholeN 60 (figL n) with
  | none => rw [q] at e; cases e
  | some m =>
    rw [q] at e
    have e : V.int (m : Nat) = V.int (n : Nat) := e
    injection e with e
    rw [show m = n by omega]
/-- what is written is read back -/
theorem frac_back {t b : Int} (hb : 0 < b) (hg : Int.gcd b t = 1) (ht : t.natAbs < 10 ^ 60) (hb2 : b.natAbs < 10 ^ 60) : fracIn 60 (fracL t b) = some (t, b) := by
  have neg : isNeg (fracL t b) = decide (t < 0) := by
    unfold isNeg fracL
    by_cases h : t < 0
    · rw [if_pos h, decide_eq_true h]
      exact decide_eq_true rfl
    · rw [if_neg h, decide_eq_false h]
      refine decide_eq_false fun e => ?_
      have ne := fig_ne t.natAbs
      have dg := fig_dig t.natAbs
      cases q : figL t.natAbs with
      | nil => exact ne q
      | cons c r =>
        rw [q] at e dg
        have : c = 45 := by simpa using e
        have := dg c List.mem_cons_self
        omega
  have figs : figsOf (fracL t b) = figL t.natAbs ++ (if b = 1 then [] else 47 :: figL b.natAbs) := by
    unfold figsOf
    rw [neg]
    unfold fracL
    by_cases h : t < 0
    · rw [decide_eq_true h, if_pos rfl, if_pos h]
      rfl
    · rw [decide_eq_false h, if_neg (by decide), if_neg h]
      rfl
  have sg : sgnI (decide (t < 0)) t.natAbs = t := by
    unfold sgnI
    by_cases h : t < 0
    · rw [decide_eq_true h, if_pos rfl]
      omega
    · rw [decide_eq_false h, if_neg (by decide)]
      omega
  have nz : (decide (t < 0) && decide (t.natAbs = 0)) = false := by
    by_cases h : t < 0
    · rw [decide_eq_false (show ¬ t.natAbs = 0 by omega), Bool.and_false]
    · rw [decide_eq_false h]
      rfl
  unfold fracIn partsOf
  rw [neg, figs]
  by_cases h1 : b = 1
  · subst h1
    rw [if_pos rfl, List.append_nil]
    have e := TL.spl_last1 (S := []) (acc := []) (fig_noslash t.natAbs)
    rw [List.nil_append] at e
    rw [e]
    show fracNs (decide (t < 0)) [wholeN 60 (figL t.natAbs)] = _
    rw [wholeN_fig ht]
    show (if (decide (t < 0) && decide (t.natAbs = 0)) = true then none else finF (sgnI (decide (t < 0)) t.natAbs) 1) = _
    rw [nz, sg]
    exact if_pos hg
  · rw [if_neg h1]
    have e := TL.spl_part1 (S := []) (acc := []) (rest := figL b.natAbs) (fig_noslash t.natAbs)
    have e2 := TL.spl_last1 (S := []) (acc := []) (fig_noslash b.natAbs)
    rw [List.nil_append] at e e2
    rw [e2] at e
    have e : TL.spl [47] 0 [] (figL t.natAbs ++ 47 :: figL b.natAbs) = [figL t.natAbs, figL b.natAbs] := e
    rw [e]
    show fracNs (decide (t < 0)) [wholeN 60 (figL t.natAbs), wholeN 60 (figL b.natAbs)] = _
    rw [wholeN_fig ht, wholeN_fig hb2]
    show (if (decide (b.natAbs < 2) || (decide (t < 0) && decide (t.natAbs = 0))) = true then none else finF (sgnI (decide (t < 0)) t.natAbs) (b.natAbs : Nat)) = _
    rw [nz, sg, decide_eq_false (show ¬ b.natAbs < 2 by omega), show ((b.natAbs : Nat) : Int) = b by omega]
    exact if_pos hg
def spLowB : Sp := fun vs H Q _ => ∃ (t b : Int), vs = [.int t, .int b] ∧ 0 ≤ t ∧ 0 < b ∧ b.natAbs.log2 < 9000 ∧ ∀ (p : Addr) (H' : Hp), H p = none → Same H H' → H' p = some (.tup [.int (lowT t b), .int (lowB t b)]) → Q (.ref p) H'
def spGreat : Sp := fun vs H Q _ => ∃ l : Addr, vs = [.ref l] ∧ Src H l ∧ ∀ (r : Int) (H' : Hp), 0 ≤ r → r < 10 ^ 60 → But l H H' → Src H' l → Q (.int r) H'
section
variable {P : Program} {w : World} {K : PySem.W.Frag} {mg : Str → Option Value} {base : Heap}
theorem o__law_low (T : Txt K mg) : OkF P w K mg base CX0 1 "_law_low" ["_law_top", "_law_bottom"] spLowB := by
  refine T.f__law_low.ok c__law_low (fun vs H Q E h => ?_) (fun f cdv A outer s H vs Q E hr h => ?_)
  · obtain ⟨t, b, rfl, _⟩ := h
    rfl
  · obtain ⟨t, b, rfl, ht, hb, hl, k⟩ := h
    refine ⟨_, (pss_cons (ps_par (by rfl) c__law_low.nd (i := 2) (j := 3) rfl rfl (by decide) rfl rfl (pa_cons (pv 0) (pa_cons (pv 1) pa_nil)) (by rfl))
(pss_cons (ps_while PassesOwn.never (pt_cmpR op_ne (pv 3) pe_int (nomark _))
(pss_one (ps_par (by rfl) c__law_low.nd (i := 2) (j := 3) rfl rfl (by decide) rfl rfl (pa_cons (pv 3) (pa_cons (pe_op op_mod (pv 2) (pv 3)) pa_nil)) (by rfl))))
(pss_one (ps_ret (pe_tup (pa_cons (pe_op op_fdivW (pv 0) (pv 2)) (pa_cons (pe_op op_fdivW (pv 1) (pv 2)) pa_nil))))))), ?_⟩
    refine ⟨_, rfl, _, rfl, _, _, rfl, ?_⟩
    refine while_by (fun σ H' => H' = H ∧ ∃ x y : Int, σ = [some (.int t), some (.int b), some (.int x), some (.int y)] ∧ 0 ≤ x ∧ 0 ≤ y ∧ Int.gcd x y = Int.gcd b t) (fun σ _ => match σ with | [_, _, _, some (.int y)] => y.toNat | _ => 0) ⟨rfl, t, b, rfl, ht, by omega, Int.gcd_comm t b⟩ ?_ ?_
    · rintro σ H' ⟨rfl, x, y, rfl, hx, hy, e⟩
      refine ⟨_, rfl, rfl, _, rfl, itnd (fun c => ?_) fun c => ?_⟩
      · have c : 0 < y := by
          have : ¬ y = 0 := fun z => c (by rw [z])
          omega
        refine ⟨_, rfl, _, rfl, _, rfl, _, _, rfl, rfl, c, _, _, rfl, ⟨rfl, y, x % y, rfl, hy, Int.emod_nonneg _ (by omega), ?_⟩, ?_⟩
        · rw [gcd_step hx c]
          exact e
        · show (x % y).toNat < y.toNat
          have := Int.emod_lt_of_pos x c
          omega
      · have c : y = 0 := by injection c
        subst c
        rw [Int.gcd_zero_right] at e
        have e2 : x = ((Int.gcd b t : Nat) : Int) := by omega
        subst e2
        refine ⟨_, rfl, _, rfl, _, _, rfl, rfl, ⟨gcd_pos t hb, gcd_log t hb hl⟩, _, rfl, _, rfl, _, _, rfl, rfl, ⟨gcd_pos t hb, gcd_log t hb hl⟩, (by show 2 ≤ sizeLine; decide), fun p hp => ?_⟩
        exact k p _ hp (Same.upd hp) upd_same
    · rintro σ H Q Q' hq ⟨v, e1, e2, x, e3, q⟩
      exact ⟨v, e1, e2, x, e3, hq _ _ q⟩
theorem o__law_great (T : Txt K mg) : OkF P w K mg base CX0 2 "_law_great" ["_law_pool_here"] spGreat := by
  have o__law_take := o__law_take (P := P) (w := w) (base := base) T
  refine T.f__law_great.ok c__law_great (fun vs H Q E h => ?_) (fun f cdv A outer s H vs Q E hr h => ?_)
  · obtain ⟨l, rfl, _⟩ := h
    rfl
  · obtain ⟨l, rfl, S, k⟩ := h
    refine ⟨_, (pss_cons (ps_set (i := 1) c__law_great.nd rfl (Or.inl rfl) pe_int)
(pss_cons (ps_for PassesOwn.never rfl (pi_range1 (by rfl) T.b_range (pa_cons (pe_op op_add pe_int (pe_c o__law_take hr (pa_cons (pv 0) (pa_cons pe_int pa_nil)))) pa_nil)) (pg_name (i := 2) c__law_great.nd rfl (Or.inl rfl))
(pss_one (ps_set (i := 1) c__law_great.nd rfl (Or.inl rfl) (pe_op op_add (pe_op op_mul (pv 1) (pe_op op_pow pe_int pe_int)) (pe_c o__law_take hr (pa_cons (pv 0) (pa_cons (pe_op op_pow pe_int pe_int) pa_nil)))))))
(pss_one (ps_ret (pv 1))))), ?_⟩
    refine ⟨_, rfl, l, 10, rfl, S, by decide, log_le 10 (by decide), fun r H1 r0 r1 B1 S1 => ⟨_, _, rfl, rfl, ?_⟩⟩
    refine ⟨_, rfl, by omega, by omega, for_range (lo := 0) (n := (1 + r).toNat) (fun j σ H' => But l H H' ∧ Src H' l ∧ ∃ (x : Int) (v2 : Option V), σ = [some (.ref l), some (.int x), v2] ∧ 0 ≤ x ∧ x < 10 ^ (6 * j)) ⟨B1, S1, 0, _, rfl, by decide, by decide⟩ ?_ ?_⟩
    · rintro j σ H2 hj ⟨B2, S2, x, v2, rfl, x0, x1⟩
      refine ⟨_, rfl, _, _, rfl, rfl, ⟨by decide, by decide, by decide⟩, _, _, rfl, rfl, .inr ⟨by decide, by decide⟩, _, rfl, _, _, rfl, rfl, ⟨by decide, by decide, by decide⟩, l, _, rfl, S2, by decide, log_le 1000000 (by decide), fun y H3 y0 y1 B3 S3 => ⟨_, _, rfl, rfl, B2.trans B3, S3, _, _, rfl, ?_, ?_⟩⟩
      · show (0 : Int) ≤ x * (10 : Int) ^ (6 : Int).toNat + y
        rw [show ((10 : Int) ^ (6 : Int).toNat) = 1000000 by decide]
        omega
      · show x * (10 : Int) ^ (6 : Int).toNat + y < 10 ^ (6 * (j + 1))
        have y1 : y < (10 : Int) ^ (6 : Int).toNat := y1
        rw [show ((10 : Int) ^ (6 : Int).toNat) = 1000000 by decide] at y1 ⊢
        rw [show 6 * (j + 1) = 6 * j + 6 by omega, Int.pow_add, show ((10 : Int) ^ 6) = 1000000 by decide]
        generalize (10 : Int) ^ (6 * j) = q at x1 ⊢
        omega
    · rintro σ H2 ⟨B2, S2, x, v2, rfl, x0, x1⟩
      refine ⟨_, rfl, k x H2 x0 (Int.lt_of_lt_of_le x1 ?_) B2 S2⟩
      have e : ∀ k : Nat, (10 : Int) ^ k = ((10 ^ k : Nat) : Int) := fun k => by
        rw [Int.natCast_pow]
        rfl
      rw [e, e]
      exact Int.ofNat_le.mpr (Nat.pow_le_pow_right (by decide) (by omega))
end
end Dear

namespace Dear
open PySem PySem.Spec PyProof.Rows L2
/-! ### texts that are no fractions -/
theorem ns_none {neg : Bool} : ∀ {os : List (Option Nat)}, none ∈ os → fracNs neg os = none
  | [none], _ => rfl
  | [some a], h => by simp at h
  | [none, _], _ => rfl
  | [some a, none], _ => rfl
  | [some a, some b], h => by simp at h
  | none :: _ :: _ :: _, _ => rfl
  | some _ :: none :: _ :: _, _ => rfl
  | some _ :: some _ :: _ :: _, _ => rfl
theorem ns_many {neg : Bool} : ∀ {os : List (Option Nat)}, 3 ≤ os.length → fracNs neg os = none
  | [], h => absurd h (by decide)
  | [_], h => absurd (show 3 ≤ 1 from h) (by decide)
  | [_, _], h => absurd (show 3 ≤ 2 from h) (by decide)
  | none :: _ :: _ :: _, _ => rfl
  | some _ :: none :: _ :: _, _ => rfl
  | some _ :: some _ :: _ :: _, _ => rfl
theorem ns_small {neg : Bool} {x : Option Nat} {b : Nat} (h : b < 2) : fracNs neg [x, some b] = none := by
  cases x with
  | none => rfl
  | some a =>
    show (if (decide (b < 2) || (neg && decide (a = 0))) = true then none else _) = none
    rw [decide_eq_true h]
    rfl
theorem ns_zero {x : Option Nat} : fracNs true [some 0, x] = none := by
  cases x with
  | none => rfl
  | some b =>
    show (if (decide (b < 2) || (true && decide (0 = 0))) = true then none else _) = none
    rw [if_pos (by simp)]
theorem ns_gcd {neg : Bool} {a b k : Nat} (hk : 2 ≤ k) (ha : k ∣ a) (hb : k ∣ b) : fracNs neg [some a, some b] = none := by
  show (if (decide (b < 2) || (neg && decide (a = 0))) = true then none else finF (sgnI neg a) b) = none
  split
  · rfl
  · unfold finF
    refine if_neg fun e => ?_
    have e2 : (sgnI neg a).natAbs = a := by
      unfold sgnI
      split <;> omega
    have e3 : Nat.gcd b a = 1 := by
      have : Nat.gcd ((b : Int)).natAbs (sgnI neg a).natAbs = 1 := e
      rw [e2, Int.natAbs_natCast] at this
      exact this
    have := Nat.dvd_gcd hb ha
    rw [e3] at this
    have := Nat.le_of_dvd (by decide) this
    omega
theorem parts_cons {p r : List Nat} (h : 47 ∉ p) : TL.spl [47] 0 [] (p ++ 47 :: r) = p :: TL.spl [47] 0 [] r := by
  have := TL.spl_part1 (S := []) (acc := []) (rest := r) h
  rw [List.nil_append] at this
  exact this
theorem parts_one {p : List Nat} (h : 47 ∉ p) : TL.spl [47] 0 [] p = [p] := by
  have := TL.spl_last1 (S := []) (acc := []) h
  rw [List.nil_append] at this
  exact this
theorem spl_mem {c : Nat} (hc : c ≠ 47) : ∀ (l acc : List Nat), c ∈ acc ∨ c ∈ l → ∃ p ∈ TL.spl [47] 0 acc l, c ∈ p
  | [], acc, h => by
    rw [TL.spl_nil]
    rcases h with h | h
    · exact ⟨acc, List.mem_cons_self, h⟩
    · exact nomatch h
  | d :: r, acc, h => by
    by_cases e : TL.pre [47] (d :: r) = true
    · rw [TL.spl_hit e]
      have ed : d = 47 := by
        have : ((d :: r).take 1 == [47]) = true := e
        simpa using this
      rcases h with h | h
      · exact ⟨acc, List.mem_cons_self, h⟩
      · rcases List.mem_cons.mp h with h | h
        · exact absurd (h.trans ed) hc
        · obtain ⟨p, hp, hcp⟩ := spl_mem hc r [] (.inr h)
          exact ⟨p, List.mem_cons_of_mem _ hp, hcp⟩
    · rw [TL.spl_miss (by simpa using e)]
      refine spl_mem hc r (acc ++ [d]) ?_
      rcases h with h | h
      · exact .inl (List.mem_append_left _ h)
      · rcases List.mem_cons.mp h with h | h
        · exact .inl (by rw [h]; simp)
        · exact .inr h
theorem wn_bad {m : Int} {p : List Nat} {c : Nat} (hc : c ∈ p) (h : c ∉ figures.cps.toList) : wholeN m p = none := by
  unfold wholeN wholeOk
  rw [if_neg]
  intro e
  rw [Bool.and_eq_true, List.all_eq_true] at e
  exact h (of_decide_eq_true (e.2 c hc))
theorem wn_nil {m : Int} : wholeN m [] = none := by
  unfold wholeN wholeOk
  rw [if_neg]
  intro e
  rw [Bool.and_eq_true, Bool.and_eq_true, decide_eq_true_eq] at e
  exact absurd e.1.1.1 (by decide)
theorem wn_lead {m : Int} {r : List Nat} (h : r ≠ []) : wholeN m (48 :: r) = none := by
  unfold wholeN wholeOk
  rw [if_neg]
  intro e
  rw [Bool.and_eq_true, Bool.and_eq_true] at e
  have e := e.1.2
  have h1 : 1 < (48 :: r).length := by
    rw [List.length_cons]
    have := List.length_pos_iff.mpr h
    omega
  rw [decide_eq_true h1] at e
  exact absurd (show (!(true && decide (some 48 = some 48))) = true from e) (by decide)
theorem hd_ne {c : Nat} {a r : List Nat} (h : c ≠ 45) : ((c :: a) ++ r).head? ≠ some 45 := fun e => h (by
  have e : some c = some 45 := e
  injection e)
theorem bad_char {l : List Nat} (c : Nat) (hc : c ∈ figsOf l) (h1 : c ≠ 47 := by decide) (h2 : c ∉ figures.cps.toList := by decide +kernel) : fracIn 60 l = none := by
  obtain ⟨p, hp, hcp⟩ := spl_mem h1 (figsOf l) [] (.inr hc)
  refine ns_none ?_
  rw [← wn_bad (m := 60) hcp h2]
  exact List.mem_map_of_mem hp
theorem figs_pos {l : List Nat} (h : l.head? ≠ some 45) : isNeg l = false ∧ figsOf l = l := by
  have e : isNeg l = false := by
    unfold isNeg
    refine decide_eq_false fun z => h ?_
    cases l with
    | nil => cases z
    | cons c r =>
      have : c = 45 := by simpa using z
      rw [this]
      rfl
  refine ⟨e, ?_⟩
  unfold figsOf
  rw [if_neg (by rw [e]; decide)]
theorem figs_neg {l : List Nat} : isNeg (45 :: l) = true ∧ figsOf (45 :: l) = l := by
  have e : isNeg (45 :: l) = true := decide_eq_true rfl
  refine ⟨e, ?_⟩
  unfold figsOf
  rw [if_pos e]
  rfl
/-- the fraction of a text without a sign ahead, by its parts -/
theorem frac_pos {l : List Nat} (h : l.head? ≠ some 45) : fracIn 60 l = fracNs false ((TL.spl [47] 0 [] l).map (wholeN 60)) := by
  obtain ⟨e1, e2⟩ := figs_pos h
  unfold fracIn partsOf
  rw [e1, e2]
theorem frac_neg {l : List Nat} : fracIn 60 (45 :: l) = fracNs true ((TL.spl [47] 0 [] l).map (wholeN 60)) := by
  obtain ⟨e1, e2⟩ := figs_neg (l := l)
  unfold fracIn partsOf
  rw [e1, e2]
theorem fig_head45 (n : Nat) (r : List Nat) : (figL n ++ r).head? ≠ some 45 := by
  have ne := fig_ne n
  have dg := fig_dig n
  cases q : figL n with
  | nil => exact absurd q ne
  | cons c s =>
    rw [q] at dg
    intro e
    have : c = 45 := by simpa using e
    have := dg c List.mem_cons_self
    omega
theorem fig_head45' (n : Nat) : (figL n).head? ≠ some 45 := by
  have := fig_head45 n []
  rw [List.append_nil] at this
  exact this
section
variable (t b : Nat)
def o1 : List (List Nat) := [[48] ++ figL t, [43] ++ figL t, [45, 45] ++ figL t, [45, 48], [32] ++ figL t, figL t ++ [32], figL t ++ [10], [9] ++ figL t]
def bothL : List Nat := figL t ++ [47] ++ figL b
def o2 : List (List Nat) := [figL t ++ [47, 48], figL t ++ [47, 49], figL t ++ [47], [47] ++ figL b, [], [45], [47], bothL t b ++ [47, 55], bothL t b ++ [47]]
def o3 : List (List Nat) := [figL t ++ [47, 45] ++ figL b, figL t ++ [47, 47] ++ figL b, figL t ++ [47, 48] ++ figL b, [48] ++ bothL t b, [43] ++ bothL t b]
def o4 : List (List Nat) := [[45, 48, 47] ++ figL b, [48, 47] ++ figL b, figL t ++ [32, 47] ++ figL b, figL t ++ [47, 32] ++ figL b]
def o5 : List (List Nat) := [figL (6 * t + 6) ++ [47] ++ figL (6 * b + 6), figL t ++ [46, 48], figL t ++ [101, 49], [97]]
def o6 : List (List Nat) := [[49] ++ repT [48] 60, [49, 47, 49] ++ repT [48] 60, [49, 95, 48], [45, 47] ++ figL b]
def o7 : List (List Nat) := [[45] ++ figL (6 * t + 6) ++ [47] ++ figL (6 * b + 6), [45] ++ figL t ++ [47, 49], [45, 48, 47, 49]]
def o8 : List (List Nat) := [figL (35 * t + 35) ++ [47] ++ figL (35 * b + 35), [45, 49] ++ repT [48] 60]
def o9 : List (List Nat) := [[49] ++ repT [48] 60 ++ [47, 55]]
variable {t b} (ht : t < 10 ^ 58) (hb : b < 10 ^ 59) (hb2 : b < 10 ^ 58 + 3) (b2 : 2 ≤ b)
include ht hb hb2 b2
theorem lens : (figL t).length ≤ 60 ∧ (figL b).length ≤ 60 ∧ (figL (6 * t + 6)).length ≤ 60 ∧ (figL (6 * b + 6)).length ≤ 60 ∧ (figL (35 * t + 35)).length ≤ 60 ∧ (figL (35 * b + 35)).length ≤ 60 :=
  ⟨fig_len (by decide) (by omega), fig_len (by decide) (by omega), fig_len (by decide) (by omega), fig_len (by decide) (by omega), fig_len (by decide) (by omega), fig_len (by decide) (by omega)⟩
theorem bad1 : ∀ l ∈ o1 t, fracIn 60 l = none := by
  intro l hl
  simp only [o1, List.mem_cons, List.not_mem_nil, or_false] at hl
  have ns := fig_noslash t
  rcases hl with rfl | rfl | rfl | rfl | rfl | rfl | rfl | rfl
  · rw [frac_pos (hd_ne (by decide)), parts_one (show 47 ∉ [48] ++ figL t from fun h => by simp [ns] at h)]
    exact ns_none (by rw [List.map_cons, show [48] ++ figL t = 48 :: figL t from rfl, wn_lead (fig_ne t)]; exact List.mem_cons_self)
  · exact bad_char 43 (by rw [(figs_pos (hd_ne (by decide))).2]; simp)
  · exact bad_char 45 (by rw [show [45, 45] ++ figL t = 45 :: (45 :: figL t) from rfl, figs_neg.2]; simp)
  · decide +kernel
  · exact bad_char 32 (by rw [(figs_pos (hd_ne (by decide))).2]; simp)
  · exact bad_char 32 (by rw [(figs_pos (fig_head45 t _)).2]; simp)
  · exact bad_char 10 (by rw [(figs_pos (fig_head45 t _)).2]; simp)
  · exact bad_char 9 (by rw [(figs_pos (hd_ne (by decide))).2]; simp)
theorem w0 : wholeN 60 [48] = some 0 ∧ wholeN 60 [49] = some 1 := by decide +kernel
theorem bad2 : ∀ l ∈ o2 t b, fracIn 60 l = none := by
  intro l hl
  simp only [o2, bothL, List.mem_cons, List.not_mem_nil, or_false] at hl
  have ns := fig_noslash t
  have nb := fig_noslash b
  rcases hl with rfl | rfl | rfl | rfl | rfl | rfl | rfl | rfl | rfl
  · rw [frac_pos (fig_head45 t _), show figL t ++ [47, 48] = figL t ++ 47 :: [48] from rfl, parts_cons ns, parts_one (by decide), List.map_cons, List.map_cons, (w0 ht hb hb2 b2).1]
    exact ns_small (by decide)
  · rw [frac_pos (fig_head45 t _), show figL t ++ [47, 49] = figL t ++ 47 :: [49] from rfl, parts_cons ns, parts_one (by decide), List.map_cons, List.map_cons, (w0 ht hb hb2 b2).2]
    exact ns_small (by decide)
  · rw [frac_pos (fig_head45 t _), show figL t ++ [47] = figL t ++ 47 :: [] from rfl, parts_cons ns, parts_one (by decide), List.map_cons, List.map_cons, wn_nil]
    exact ns_none (by simp)
  · rw [frac_pos (hd_ne (by decide)), show [47] ++ figL b = [] ++ 47 :: figL b from rfl, parts_cons (by decide), List.map_cons, wn_nil]
    exact ns_none (by simp)
  · decide +kernel
  · decide +kernel
  · decide +kernel
  · rw [List.append_assoc, List.append_assoc, frac_pos (fig_head45 t _), show [47] ++ (figL b ++ [47, 55]) = 47 :: (figL b ++ 47 :: [55]) from rfl, parts_cons ns, parts_cons nb, parts_one (by decide)]
    exact ns_many (by simp)
  · rw [List.append_assoc, List.append_assoc, frac_pos (fig_head45 t _), show [47] ++ (figL b ++ [47]) = 47 :: (figL b ++ 47 :: []) from rfl, parts_cons ns, parts_cons nb, parts_one (by decide)]
    exact ns_many (by simp)
theorem bad3 : ∀ l ∈ o3 t b, fracIn 60 l = none := by
  intro l hl
  simp only [o3, bothL, List.mem_cons, List.not_mem_nil, or_false] at hl
  have ns := fig_noslash t
  have nb := fig_noslash b
  rcases hl with rfl | rfl | rfl | rfl | rfl
  · rw [List.append_assoc]
    exact bad_char 45 (by rw [(figs_pos (fig_head45 t _)).2]; simp)
  · rw [List.append_assoc, frac_pos (fig_head45 t _), show [47, 47] ++ figL b = 47 :: ([] ++ 47 :: figL b) from rfl, parts_cons ns, parts_cons (by decide), List.map_cons, List.map_cons, wn_nil]
    exact ns_none (by simp)
  · rw [List.append_assoc, frac_pos (fig_head45 t _), show [47, 48] ++ figL b = 47 :: (48 :: figL b) from rfl, parts_cons ns, parts_one (show 47 ∉ 48 :: figL b from fun h => by simp [nb] at h), List.map_cons, List.map_cons, wn_lead (fig_ne b)]
    exact ns_none (by simp)
  · rw [frac_pos (hd_ne (by decide)), show [48] ++ (figL t ++ [47] ++ figL b) = (48 :: figL t) ++ 47 :: figL b from by simp, parts_cons (show 47 ∉ 48 :: figL t from fun h => by simp [ns] at h), List.map_cons, wn_lead (fig_ne t)]
    exact ns_none (by simp)
  · exact bad_char 43 (by rw [(figs_pos (hd_ne (by decide))).2]; simp)
theorem bad4 : ∀ l ∈ o4 t b, fracIn 60 l = none := by
  intro l hl
  simp only [o4, List.mem_cons, List.not_mem_nil, or_false] at hl
  have nb := fig_noslash b
  rcases hl with rfl | rfl | rfl | rfl
  · rw [show [45, 48, 47] ++ figL b = 45 :: ([48] ++ 47 :: figL b) from rfl, frac_neg, parts_cons (by decide), parts_one nb, List.map_cons, List.map_cons, (w0 ht hb hb2 b2).1]
    exact ns_zero
  · rw [frac_pos (hd_ne (by decide)), show [48, 47] ++ figL b = [48] ++ 47 :: figL b from rfl, parts_cons (by decide), parts_one nb, List.map_cons, List.map_cons, (w0 ht hb hb2 b2).1, wholeN_fig (by omega)]
    exact ns_gcd b2 (Nat.dvd_zero b) (Nat.dvd_refl b)
  · rw [List.append_assoc]
    exact bad_char 32 (by rw [(figs_pos (fig_head45 t _)).2]; simp)
  · rw [List.append_assoc]
    exact bad_char 32 (by rw [(figs_pos (fig_head45 t _)).2]; simp)
theorem bad_k {k : Nat} (hk : 2 ≤ k) (h1 : k * t + k < 10 ^ 60) (h2 : k * b + k < 10 ^ 60) : fracIn 60 (figL (k * t + k) ++ [47] ++ figL (k * b + k)) = none ∧ fracIn 60 ([45] ++ figL (k * t + k) ++ [47] ++ figL (k * b + k)) = none := by
  have ns := fig_noslash (k * t + k)
  have nb := fig_noslash (k * b + k)
  have e : TL.spl [47] 0 [] (figL (k * t + k) ++ 47 :: figL (k * b + k)) = [figL (k * t + k), figL (k * b + k)] := by rw [parts_cons ns, parts_one nb]
  have d1 : k ∣ k * t + k := Nat.dvd_add (Nat.dvd_mul_right k t) (Nat.dvd_refl k)
  have d2 : k ∣ k * b + k := Nat.dvd_add (Nat.dvd_mul_right k b) (Nat.dvd_refl k)
  constructor
  · rw [List.append_assoc, frac_pos (fig_head45 _ _), show [47] ++ figL (k * b + k) = 47 :: figL (k * b + k) from rfl, e, List.map_cons, List.map_cons, wholeN_fig h1, wholeN_fig h2]
    exact ns_gcd hk d1 d2
  · rw [List.append_assoc, List.append_assoc, show [45] ++ (figL (k * t + k) ++ ([47] ++ figL (k * b + k))) = 45 :: (figL (k * t + k) ++ 47 :: figL (k * b + k)) from rfl, frac_neg, e, List.map_cons, List.map_cons, wholeN_fig h1, wholeN_fig h2]
    exact ns_gcd hk d1 d2
theorem bad5 : ∀ l ∈ o5 t b, fracIn 60 l = none := by
  intro l hl
  simp only [o5, List.mem_cons, List.not_mem_nil, or_false] at hl
  rcases hl with rfl | rfl | rfl | rfl
  · exact (bad_k ht hb hb2 b2 (by decide) (by omega) (by omega)).1
  · exact bad_char 46 (by rw [(figs_pos (fig_head45 t _)).2]; simp)
  · exact bad_char 101 (by rw [(figs_pos (fig_head45 t _)).2]; simp)
  · decide +kernel
theorem bad6 : ∀ l ∈ o6 b, fracIn 60 l = none := by
  intro l hl
  simp only [o6, List.mem_cons, List.not_mem_nil, or_false] at hl
  rcases hl with rfl | rfl | rfl | rfl
  · decide +kernel
  · decide +kernel
  · decide +kernel
  · rw [show [45, 47] ++ figL b = 45 :: ([] ++ 47 :: figL b) from rfl, frac_neg, parts_cons (by decide), List.map_cons, wn_nil]
    exact ns_none (by simp)
theorem bad7 : ∀ l ∈ o7 t b, fracIn 60 l = none := by
  intro l hl
  simp only [o7, List.mem_cons, List.not_mem_nil, or_false] at hl
  rcases hl with rfl | rfl | rfl
  · exact (bad_k ht hb hb2 b2 (by decide) (by omega) (by omega)).2
  · rw [List.append_assoc, show [45] ++ (figL t ++ [47, 49]) = 45 :: (figL t ++ 47 :: [49]) from rfl, frac_neg, parts_cons (fig_noslash t), parts_one (by decide), List.map_cons, List.map_cons, (w0 ht hb hb2 b2).2]
    exact ns_small (by decide)
  · decide +kernel
theorem bad8 : ∀ l ∈ o8 t b, fracIn 60 l = none := by
  intro l hl
  simp only [o8, List.mem_cons, List.not_mem_nil, or_false] at hl
  rcases hl with rfl | rfl
  · exact (bad_k ht hb hb2 b2 (by decide) (by omega) (by omega)).1
  · decide +kernel
theorem bad9 : ∀ l ∈ o9, fracIn 60 l = none := by
  intro l hl
  simp only [o9, List.mem_cons, List.not_mem_nil, or_false] at hl
  subst hl
  decide +kernel
end
end Dear

namespace Dear
open PySem PySem.Spec PyProof.Rows L2
def oddL (t b : Nat) : List (List Nat) := o1 t ++ o2 t b ++ o3 t b ++ o4 t b ++ o5 t b ++ o6 b ++ o7 t b ++ o8 t b ++ o9
theorem odd_len (t b : Nat) : (oddL t b).length = 40 := rfl
theorem odd_bad {t b : Nat} (ht : t < 10 ^ 58) (hb : b < 10 ^ 59) (hb2 : b < 10 ^ 58 + 3) (b2 : 2 ≤ b) : ∀ l ∈ oddL t b, fracIn 60 l = none := by
  intro l hl
  unfold oddL at hl
  simp only [List.mem_append] at hl
  rcases hl with (((((((hl | hl) | hl) | hl) | hl) | hl) | hl) | hl) | hl
  · exact bad1 ht hb hb2 b2 l hl
  · exact bad2 ht hb hb2 b2 l hl
  · exact bad3 ht hb hb2 b2 l hl
  · exact bad4 ht hb hb2 b2 l hl
  · exact bad5 ht hb hb2 b2 l hl
  · exact bad6 ht hb hb2 b2 l hl
  · exact bad7 ht hb hb2 b2 l hl
  · exact bad8 ht hb hb2 b2 l hl
  · exact bad9 ht hb hb2 b2 l hl
theorem rep60 : (repT [48] 60).length = 60 := by rw [repT_len]; rfl
section
variable {t b : Nat} (ht : t < 10 ^ 58) (hb : b < 10 ^ 59) (hb2 : b < 10 ^ 58 + 3) (b2 : 2 ≤ b)
include ht hb hb2 b2
theorem small1 : ∀ l ∈ o1 t, l.length ≤ 200 := by
  obtain ⟨l1, l2, l3, l4, l5, l6⟩ := lens ht hb hb2 b2
  have r := rep60
  simp only [o1, bothL, List.forall_mem_cons, List.length_append, List.length_cons, List.length_nil, List.not_mem_nil, false_imp_iff, implies_true, and_true]
  omega
theorem small2 : ∀ l ∈ o2 t b, l.length ≤ 200 := by
  obtain ⟨l1, l2, l3, l4, l5, l6⟩ := lens ht hb hb2 b2
  have r := rep60
  simp only [o2, bothL, List.forall_mem_cons, List.length_append, List.length_cons, List.length_nil, List.not_mem_nil, false_imp_iff, implies_true, and_true]
  omega
theorem small3 : ∀ l ∈ o3 t b, l.length ≤ 200 := by
  obtain ⟨l1, l2, l3, l4, l5, l6⟩ := lens ht hb hb2 b2
  have r := rep60
  simp only [o3, bothL, List.forall_mem_cons, List.length_append, List.length_cons, List.length_nil, List.not_mem_nil, false_imp_iff, implies_true, and_true]
  omega
theorem small4 : ∀ l ∈ o4 t b, l.length ≤ 200 := by
  obtain ⟨l1, l2, l3, l4, l5, l6⟩ := lens ht hb hb2 b2
  have r := rep60
  simp only [o4, bothL, List.forall_mem_cons, List.length_append, List.length_cons, List.length_nil, List.not_mem_nil, false_imp_iff, implies_true, and_true]
  omega
theorem small5 : ∀ l ∈ o5 t b, l.length ≤ 200 := by
  obtain ⟨l1, l2, l3, l4, l5, l6⟩ := lens ht hb hb2 b2
  have r := rep60
  simp only [o5, bothL, List.forall_mem_cons, List.length_append, List.length_cons, List.length_nil, List.not_mem_nil, false_imp_iff, implies_true, and_true]
  omega
theorem small6 : ∀ l ∈ o6 b, l.length ≤ 200 := by
  obtain ⟨l1, l2, l3, l4, l5, l6⟩ := lens ht hb hb2 b2
  have r := rep60
  simp only [o6, bothL, List.forall_mem_cons, List.length_append, List.length_cons, List.length_nil, List.not_mem_nil, false_imp_iff, implies_true, and_true]
  omega
theorem small7 : ∀ l ∈ o7 t b, l.length ≤ 200 := by
  obtain ⟨l1, l2, l3, l4, l5, l6⟩ := lens ht hb hb2 b2
  have r := rep60
  simp only [o7, bothL, List.forall_mem_cons, List.length_append, List.length_cons, List.length_nil, List.not_mem_nil, false_imp_iff, implies_true, and_true]
  omega
theorem small8 : ∀ l ∈ o8 t b, l.length ≤ 200 := by
  obtain ⟨l1, l2, l3, l4, l5, l6⟩ := lens ht hb hb2 b2
  have r := rep60
  simp only [o8, bothL, List.forall_mem_cons, List.length_append, List.length_cons, List.length_nil, List.not_mem_nil, false_imp_iff, implies_true, and_true]
  omega
theorem small9 : ∀ l ∈ o9 , l.length ≤ 200 := by
  obtain ⟨l1, l2, l3, l4, l5, l6⟩ := lens ht hb hb2 b2
  have r := rep60
  simp only [o9, bothL, List.forall_mem_cons, List.length_append, List.length_cons, List.length_nil, List.not_mem_nil, false_imp_iff, implies_true, and_true]
  omega
theorem odd_small : ∀ l ∈ oddL t b, l.length ≤ 200 := by
  intro l hl
  unfold oddL at hl
  simp only [List.mem_append] at hl
  rcases hl with (((((((hl | hl) | hl) | hl) | hl) | hl) | hl) | hl) | hl
  · exact small1 ht hb hb2 b2 l hl
  · exact small2 ht hb hb2 b2 l hl
  · exact small3 ht hb hb2 b2 l hl
  · exact small4 ht hb hb2 b2 l hl
  · exact small5 ht hb hb2 b2 l hl
  · exact small6 ht hb hb2 b2 l hl
  · exact small7 ht hb hb2 b2 l hl
  · exact small8 ht hb hb2 b2 l hl
  · exact small9 ht hb hb2 b2 l hl
end
def spOdd : Sp := fun vs H Q _ => ∃ (l p : Addr) (t b : Nat), vs = [.ref l, .ref p] ∧ Src H l ∧ H p = some (.tup [.int (t : Nat), .int (b : Nat)]) ∧ t < 10 ^ 58 ∧ b < 10 ^ 58 + 3 ∧ 2 ≤ b ∧
  ∀ (o : List Nat) (H' : Hp), fracIn 60 o = none → o.length ≤ 200 → But l H H' → Src H' l → Q (.str (txt o)) H'
section
variable {P : Program} {w : World} {K : PySem.W.Frag} {mg : Str → Option Value} {base : Heap}
theorem o__law_odd (T : Txt K mg) : OkF P w K mg base CX0 2 "_law_odd" ["_law_pool_here", "_law_one"] spOdd := by
  have o__law_take := o__law_take (P := P) (w := w) (base := base) T
  refine T.f__law_odd.ok c__law_odd (fun vs H Q E h => ?_) (fun f cdv A outer s H vs Q E hr h => ?_)
  · obtain ⟨l, p, t, b, rfl, _⟩ := h
    rfl
  · obtain ⟨l, p, t, b, rfl, S, hp, ht, hb2, b2, k⟩ := h
    refine ⟨_, (pss_cons (ps_par (by rfl) c__law_odd.nd (i := 2) (j := 3) rfl rfl (by decide) rfl rfl (pa_cons (pe_callTy call_str_int (by rfl) T.b_str (by decide +kernel) (pa_cons (pe_ix (ix_tup_k K) (pv 1) pe_int (fun _ _ => rfl)) pa_nil)) (pa_cons (pe_callTy call_str_int (by rfl) T.b_str (by decide +kernel) (pa_cons (pe_ix (ix_tup_k K) (pv 1) pe_int (fun _ _ => rfl)) pa_nil)) pa_nil)) (by rfl))
(pss_cons (ps_set (i := 4) c__law_odd.nd rfl (Or.inl rfl) (pe_op op_add_str (pe_op op_add_str (pv 2) pe_str) (pv 3)))
(pss_cons (ps_set (i := 5) c__law_odd.nd rfl (Or.inl rfl) (pe_lst (pa_cons (pe_op op_add_str pe_str (pv 2)) (pa_cons (pe_op op_add_str pe_str (pv 2)) (pa_cons (pe_op op_add_str pe_str (pv 2)) (pa_cons pe_str (pa_cons (pe_op op_add_str pe_str (pv 2)) (pa_cons (pe_op op_add_str (pv 2) pe_str) (pa_cons (pe_op op_add_str (pv 2) pe_str) (pa_cons (pe_op op_add_str pe_str (pv 2)) pa_nil))))))))))
(pss_cons (ps_set (i := 5) c__law_odd.nd rfl (Or.inl rfl) (pe_op op_cat (pv 5) (pe_lst (pa_cons (pe_op op_add_str (pv 2) pe_str) (pa_cons (pe_op op_add_str (pv 2) pe_str) (pa_cons (pe_op op_add_str (pv 2) pe_str) (pa_cons (pe_op op_add_str pe_str (pv 3)) (pa_cons pe_str (pa_cons pe_str (pa_cons pe_str (pa_cons (pe_op op_add_str (pv 4) pe_str) (pa_cons (pe_op op_add_str (pv 4) pe_str) pa_nil))))))))))))
(pss_cons (ps_set (i := 5) c__law_odd.nd rfl (Or.inl rfl) (pe_op op_cat (pv 5) (pe_lst (pa_cons (pe_op op_add_str (pe_op op_add_str (pv 2) pe_str) (pv 3)) (pa_cons (pe_op op_add_str (pe_op op_add_str (pv 2) pe_str) (pv 3)) (pa_cons (pe_op op_add_str (pe_op op_add_str (pv 2) pe_str) (pv 3)) (pa_cons (pe_op op_add_str pe_str (pv 4)) (pa_cons (pe_op op_add_str pe_str (pv 4)) pa_nil))))))))
(pss_cons (ps_set (i := 5) c__law_odd.nd rfl (Or.inl rfl) (pe_op op_cat (pv 5) (pe_lst (pa_cons (pe_op op_add_str pe_str (pv 3)) (pa_cons (pe_op op_add_str pe_str (pv 3)) (pa_cons (pe_op op_add_str (pe_op op_add_str (pv 2) pe_str) (pv 3)) (pa_cons (pe_op op_add_str (pe_op op_add_str (pv 2) pe_str) (pv 3)) pa_nil)))))))
(pss_cons (ps_set (i := 5) c__law_odd.nd rfl (Or.inl rfl) (pe_op op_cat (pv 5) (pe_lst (pa_cons (pe_op op_add_str (pe_op op_add_str (pe_callTy call_str_int (by rfl) T.b_str (by decide +kernel) (pa_cons (pe_op op_add (pe_op op_mul pe_int (pe_ix (ix_tup_k K) (pv 1) pe_int (fun _ _ => rfl))) pe_int) pa_nil)) pe_str) (pe_callTy call_str_int (by rfl) T.b_str (by decide +kernel) (pa_cons (pe_op op_add (pe_op op_mul pe_int (pe_ix (ix_tup_k K) (pv 1) pe_int (fun _ _ => rfl))) pe_int) pa_nil))) (pa_cons (pe_op op_add_str (pv 2) pe_str) (pa_cons (pe_op op_add_str (pv 2) pe_str) (pa_cons pe_str pa_nil)))))))
(pss_cons (ps_set (i := 5) c__law_odd.nd rfl (Or.inl rfl) (pe_op op_cat (pv 5) (pe_lst (pa_cons (pe_op op_add_str pe_str (pe_op op_repS pe_str pe_int)) (pa_cons (pe_op op_add_str pe_str (pe_op op_repS pe_str pe_int)) (pa_cons pe_str (pa_cons (pe_op op_add_str pe_str (pv 3)) pa_nil)))))))
(pss_cons (ps_set (i := 5) c__law_odd.nd rfl (Or.inl rfl) (pe_op op_cat (pv 5) (pe_lst (pa_cons (pe_op op_add_str (pe_op op_add_str (pe_op op_add_str pe_str (pe_callTy call_str_int (by rfl) T.b_str (by decide +kernel) (pa_cons (pe_op op_add (pe_op op_mul pe_int (pe_ix (ix_tup_k K) (pv 1) pe_int (fun _ _ => rfl))) pe_int) pa_nil))) pe_str) (pe_callTy call_str_int (by rfl) T.b_str (by decide +kernel) (pa_cons (pe_op op_add (pe_op op_mul pe_int (pe_ix (ix_tup_k K) (pv 1) pe_int (fun _ _ => rfl))) pe_int) pa_nil))) (pa_cons (pe_op op_add_str (pe_op op_add_str pe_str (pv 2)) pe_str) (pa_cons pe_str pa_nil))))))
(pss_cons (ps_set (i := 5) c__law_odd.nd rfl (Or.inl rfl) (pe_op op_cat (pv 5) (pe_lst (pa_cons (pe_op op_add_str (pe_op op_add_str (pe_callTy call_str_int (by rfl) T.b_str (by decide +kernel) (pa_cons (pe_op op_add (pe_op op_mul pe_int (pe_ix (ix_tup_k K) (pv 1) pe_int (fun _ _ => rfl))) pe_int) pa_nil)) pe_str) (pe_callTy call_str_int (by rfl) T.b_str (by decide +kernel) (pa_cons (pe_op op_add (pe_op op_mul pe_int (pe_ix (ix_tup_k K) (pv 1) pe_int (fun _ _ => rfl))) pe_int) pa_nil))) (pa_cons (pe_op op_add_str pe_str (pe_op op_repS pe_str pe_int)) pa_nil)))))
(pss_one (ps_ret (pe_ix (ix_list_k K) (pe_op op_cat (pv 5) (pe_lst (pa_cons (pe_op op_add_str (pe_op op_add_str pe_str (pe_op op_repS pe_str pe_int)) pe_str) pa_nil))) (pe_c o__law_take hr (pa_cons (pv 0) (pa_cons pe_int pa_nil))) (fun _ _ => rfl)))))))))))))), ?_⟩
    have hb : b < 10 ^ 59 := Nat.lt_trans hb2 (by decide)
    have small := odd_small ht hb hb2 b2
    have bad := odd_bad ht hb hb2 b2
    have lim : ∀ {n : Nat}, n < 10 ^ 60 → n < 2 ^ 250 := fun h => Nat.lt_trans h (by decide)
    have h1 : t < 2 ^ 250 := lim (by omega)
    have h2 : b < 2 ^ 250 := lim (by omega)
    have h3 : 6 * t + 6 < 2 ^ 250 := lim (by omega)
    have h4 : 6 * b + 6 < 2 ^ 250 := lim (by omega)
    have h5 : 35 * t + 35 < 2 ^ 250 := lim (by omega)
    have h6 : 35 * b + 35 < 2 ^ 250 := lim (by omega)
    clear lim
    have sm1 : ∀ x ∈ o1 t, x.length ≤ 1000 := fun x hx => Nat.le_trans (small1 ht hb hb2 b2 x hx) (by decide)
    have sm2 : ∀ x ∈ o2 t b, x.length ≤ 1000 := fun x hx => Nat.le_trans (small2 ht hb hb2 b2 x hx) (by decide)
    have sm3 : ∀ x ∈ o3 t b, x.length ≤ 1000 := fun x hx => Nat.le_trans (small3 ht hb hb2 b2 x hx) (by decide)
    have sm4 : ∀ x ∈ o4 t b, x.length ≤ 1000 := fun x hx => Nat.le_trans (small4 ht hb hb2 b2 x hx) (by decide)
    have sm5 : ∀ x ∈ o5 t b, x.length ≤ 1000 := fun x hx => Nat.le_trans (small5 ht hb hb2 b2 x hx) (by decide)
    have sm6 : ∀ x ∈ o6 b, x.length ≤ 1000 := fun x hx => Nat.le_trans (small6 ht hb hb2 b2 x hx) (by decide)
    have sm7 : ∀ x ∈ o7 t b, x.length ≤ 1000 := fun x hx => Nat.le_trans (small7 ht hb hb2 b2 x hx) (by decide)
    have sm8 : ∀ x ∈ o8 t b, x.length ≤ 1000 := fun x hx => Nat.le_trans (small8 ht hb hb2 b2 x hx) (by decide)
    have sm9 : ∀ x ∈ o9, x.length ≤ 1000 := fun x hx => Nat.le_trans (small9 ht hb hb2 b2 x hx) (by decide)
    have lb : (bothL t b).length ≤ 1000 := by
      obtain ⟨l1, l2, _⟩ := lens ht hb hb2 b2
      unfold bothL
      rw [List.length_append, List.length_append]
      show _ + 1 + _ ≤ 1000
      omega
    have lt1 : ((t : Nat) : Int).natAbs.log2 < 1920 := Nat.lt_of_lt_of_le (PySem.Flt.log2_lt_of (by decide) h1) (by decide)
    have lb1 : ((b : Nat) : Int).natAbs.log2 < 1920 := Nat.lt_of_lt_of_le (PySem.Flt.log2_lt_of (by decide) h2) (by decide)
    refine ⟨_, rfl, _, _, _, _, rfl, rfl, SqT.of hp, rfl, _, rfl, lt1, _, rfl, _, _, _, _, rfl, rfl, SqT.of hp, rfl, _, rfl, lb1, ?_⟩
    rw [show (toString ((t : Nat) : Int) : Str) = txt (figL t) from str_num t, show (toString ((b : Nat) : Int) : Str) = txt (figL b) from str_num b]
    refine ⟨_, _, rfl, ?_⟩
    dsimp only
    refine s_seq (s_set ?_)
    refine MkS.go (l := bothL t b) (by exact (mks_add (mks_add (mks_var rfl) (mks_c (by decide +kernel))) (mks_var rfl))) lb ?_
    dsimp only
    refine s_seq (s_set ?_)
    refine MkSA.lst (ls := o1 t) (by exact (mksa_cons (mks_add (mks_c (by decide +kernel)) (mks_var rfl)) (mksa_cons (mks_add (mks_c (by decide +kernel)) (mks_var rfl)) (mksa_cons (mks_add (mks_c (by decide +kernel)) (mks_var rfl)) (mksa_cons (mks_c (by decide +kernel)) (mksa_cons (mks_add (mks_c (by decide +kernel)) (mks_var rfl)) (mksa_cons (mks_add (mks_var rfl) (mks_c (by decide +kernel))) (mksa_cons (mks_add (mks_var rfl) (mks_c (by decide +kernel))) (mksa_cons (mks_add (mks_c (by decide +kernel)) (mks_var rfl)) mksa_nil))))))))) sm1 (by exact Nat.le_of_ble_eq_true rfl) fun p1 H1 hp1 s1 e1 => ?_
    dsimp only
    refine s_seq (s_set ?_)
    refine MkSA.cat (ls := o2 t b) (by exact (mksa_cons (mks_add (mks_var rfl) (mks_c (by decide +kernel))) (mksa_cons (mks_add (mks_var rfl) (mks_c (by decide +kernel))) (mksa_cons (mks_add (mks_var rfl) (mks_c (by decide +kernel))) (mksa_cons (mks_add (mks_c (by decide +kernel)) (mks_var rfl)) (mksa_cons (mks_c (by decide +kernel)) (mksa_cons (mks_c (by decide +kernel)) (mksa_cons (mks_c (by decide +kernel)) (mksa_cons (mks_add (mks_var rfl) (mks_c (by decide +kernel))) (mksa_cons (mks_add (mks_var rfl) (mks_c (by decide +kernel))) mksa_nil)))))))))) rfl e1 sm2 (by exact Nat.le_of_ble_eq_true rfl) fun p2 H2 hp2 u2 e2 => ?_
    have s2 := s1.trans u2
    dsimp only
    refine s_seq (s_set ?_)
    refine MkSA.cat (ls := o3 t b) (by exact (mksa_cons (mks_add (mks_add (mks_var rfl) (mks_c (by decide +kernel))) (mks_var rfl)) (mksa_cons (mks_add (mks_add (mks_var rfl) (mks_c (by decide +kernel))) (mks_var rfl)) (mksa_cons (mks_add (mks_add (mks_var rfl) (mks_c (by decide +kernel))) (mks_var rfl)) (mksa_cons (mks_add (mks_c (by decide +kernel)) (mks_var rfl)) (mksa_cons (mks_add (mks_c (by decide +kernel)) (mks_var rfl)) mksa_nil)))))) rfl e2 sm3 (by exact Nat.le_of_ble_eq_true rfl) fun p3 H3 hp3 u3 e3 => ?_
    have s3 := s2.trans u3
    dsimp only
    refine s_seq (s_set ?_)
    refine MkSA.cat (ls := o4 t b) (by exact (mksa_cons (mks_add (mks_c (by decide +kernel)) (mks_var rfl)) (mksa_cons (mks_add (mks_c (by decide +kernel)) (mks_var rfl)) (mksa_cons (mks_add (mks_add (mks_var rfl) (mks_c (by decide +kernel))) (mks_var rfl)) (mksa_cons (mks_add (mks_add (mks_var rfl) (mks_c (by decide +kernel))) (mks_var rfl)) mksa_nil))))) rfl e3 sm4 (by exact Nat.le_of_ble_eq_true rfl) fun p4 H4 hp4 u4 e4 => ?_
    have s4 := s3.trans u4
    dsimp only
    refine s_seq (s_set ?_)
    refine MkSA.cat (ls := o5 t b) (by exact (mksa_cons (mks_add (mks_add (mks_str (n := 6 * t + 6) h3 fun H1 s Q q => ⟨_, rfl, _, _, _, _, rfl, rfl, SqT.of (s _ _ (s4 _ _ hp)), rfl, _, _, rfl, rfl, .inl ⟨by decide, by decide⟩, _, _, rfl, rfl, q⟩) (mks_c (by decide +kernel))) (mks_str (n := 6 * b + 6) h4 fun H1 s Q q => ⟨_, rfl, _, _, _, _, rfl, rfl, SqT.of (s _ _ (s4 _ _ hp)), rfl, _, _, rfl, rfl, .inl ⟨by decide, by decide⟩, _, _, rfl, rfl, q⟩)) (mksa_cons (mks_add (mks_var rfl) (mks_c (by decide +kernel))) (mksa_cons (mks_add (mks_var rfl) (mks_c (by decide +kernel))) (mksa_cons (mks_c (by decide +kernel)) mksa_nil))))) rfl e4 sm5 (by exact Nat.le_of_ble_eq_true rfl) fun p5 H5 hp5 u5 e5 => ?_
    have s5 := s4.trans u5
    dsimp only
    refine s_seq (s_set ?_)
    refine MkSA.cat (ls := o6 b) (by exact (mksa_cons (mks_add (mks_c (by decide +kernel)) (mks_rep (n := 60) (by decide +kernel) (by decide) (by decide))) (mksa_cons (mks_add (mks_c (by decide +kernel)) (mks_rep (n := 60) (by decide +kernel) (by decide) (by decide))) (mksa_cons (mks_c (by decide +kernel)) (mksa_cons (mks_add (mks_c (by decide +kernel)) (mks_var rfl)) mksa_nil))))) rfl e5 sm6 (by exact Nat.le_of_ble_eq_true rfl) fun p6 H6 hp6 u6 e6 => ?_
    have s6 := s5.trans u6
    dsimp only
    refine s_seq (s_set ?_)
    refine MkSA.cat (ls := o7 t b) (by exact (mksa_cons (mks_add (mks_add (mks_add (mks_c (by decide +kernel)) (mks_str (n := 6 * t + 6) h3 fun H1 s Q q => ⟨_, rfl, _, _, _, _, rfl, rfl, SqT.of (s _ _ (s6 _ _ hp)), rfl, _, _, rfl, rfl, .inl ⟨by decide, by decide⟩, _, _, rfl, rfl, q⟩)) (mks_c (by decide +kernel))) (mks_str (n := 6 * b + 6) h4 fun H1 s Q q => ⟨_, rfl, _, _, _, _, rfl, rfl, SqT.of (s _ _ (s6 _ _ hp)), rfl, _, _, rfl, rfl, .inl ⟨by decide, by decide⟩, _, _, rfl, rfl, q⟩)) (mksa_cons (mks_add (mks_add (mks_c (by decide +kernel)) (mks_var rfl)) (mks_c (by decide +kernel))) (mksa_cons (mks_c (by decide +kernel)) mksa_nil)))) rfl e6 sm7 (by exact Nat.le_of_ble_eq_true rfl) fun p7 H7 hp7 u7 e7 => ?_
    have s7 := s6.trans u7
    dsimp only
    refine s_seq (s_set ?_)
    refine MkSA.cat (ls := o8 t b) (by exact (mksa_cons (mks_add (mks_add (mks_str (n := 35 * t + 35) h5 fun H1 s Q q => ⟨_, rfl, _, _, _, _, rfl, rfl, SqT.of (s _ _ (s7 _ _ hp)), rfl, _, _, rfl, rfl, .inl ⟨by decide, by decide⟩, _, _, rfl, rfl, q⟩) (mks_c (by decide +kernel))) (mks_str (n := 35 * b + 35) h6 fun H1 s Q q => ⟨_, rfl, _, _, _, _, rfl, rfl, SqT.of (s _ _ (s7 _ _ hp)), rfl, _, _, rfl, rfl, .inl ⟨by decide, by decide⟩, _, _, rfl, rfl, q⟩)) (mksa_cons (mks_add (mks_c (by decide +kernel)) (mks_rep (n := 60) (by decide +kernel) (by decide) (by decide))) mksa_nil))) rfl e7 sm8 (by exact Nat.le_of_ble_eq_true rfl) fun p8 H8 hp8 u8 e8 => ?_
    have s8 := s7.trans u8
    dsimp only
    refine s_ret ?_
    refine MkSA.cat (ls := o9) (by exact (mksa_cons (mks_add (mks_add (mks_c (by decide +kernel)) (mks_rep (n := 60) (by decide +kernel) (by decide) (by decide))) (mks_c (by decide +kernel))) mksa_nil)) rfl e8 sm9 (by exact Nat.le_of_ble_eq_true rfl) fun p9 H9 hp9 u9 e9 => ?_
    have s9 := s8.trans u9
    have e9 : H9 p9 = some (.lst (vsT (oddL t b))) := e9
    have n9 : p9 ≠ l := S.ne (same_none s8 hp9)
    refine ⟨_, rfl, l, 40, rfl, S.same s9, by decide, log_le 40 (by decide), fun r H10 r0 r1 B10 S10 => ?_⟩
    obtain ⟨v, hv, hm, _⟩ := at_lt (xs := vsT (oddL t b)) r0 (by unfold vsT; rw [List.length_map, odd_len]; exact r1)
    obtain ⟨o, ho, rfl⟩ := List.mem_map.mp hm
    exact ⟨_, _, _, _, rfl, rfl, SqL.of (B10 _ _ e9 n9), hv, k o H10 (bad o ho) (small o ho) ((But.of s9).trans B10) S10⟩
end
end Dear

namespace Dear
open PySem PySem.Spec PyProof.Rows L2
/-- what read_fraction tells of a thing -/
def readD : D → Option (Int × Int)
  | .str z => fracIn 60 z.cps.toList
  | _ => none
def lenS : D → Nat
  | .str z => z.length
  | _ => 0
def spReadF (C : Addr) : Sp := fun vs H Q E => ∃ (v : V) (d : D), vs = [v] ∧ Dt H v d ∧ lenS d ≤ 900 ∧ (∀ x, readD d = some x → ∀ (p : Addr) (H' : Hp), Same H H' → H' p = some (.tup [.int x.1, .int x.2]) → Q (.ref p) H') ∧
  (readD d = none → ∀ (dd : Addr) (H' : Hp), Same H H' → H dd = none → H' dd = some (.xd [("row", .int 0)]) → E (.ref C) (some dd) H')
section
variable {P : Program} {w : World} {K : PySem.W.Frag} {mg : Str → Option Value} {base : Heap}
theorem o_read_fraction (T : Txt K mg) : OkF P w K mg base (L2.CX P w) 5 "read_fraction" ["text"] (spReadF T.A.NoText) := by
  have o_fraction_in := o_fraction_in (P := P) (w := w) (base := base) T
  have oi_NoText := oi_NoText (P := P) (w := w) (base := base) T
  refine T.f_read_fraction.okX c_read_fraction (fun vs H Q E h => ?_) (fun f cdv A outer s H vs Q E hr h => ?_)
  · obtain ⟨v, d, rfl, _⟩ := h
    rfl
  · obtain ⟨v, d, rfl, hI, ll, k, kE⟩ := h
    refine ⟨_, (pss_cons (ps_if (pt_not (pt_val (pe_callB (call_isi_k K) (by rfl) T.b_isinstance (by decide +kernel) (pa_cons (pv 0) (pa_cons (pe_bltn (v := .ty "str") (by rfl) T.b_str (by decide +kernel) rfl) pa_nil)))))
(pss_one (ps_raise rfl (takes_of rfl rfl rfl rfl) (pmk_i oi_NoText hr (pa_cons pe_int pa_nil))))
pss_nil)
(pss_cons (ps_set (i := 1) c_read_fraction.nd rfl (Or.inl rfl) (pe_c o_fraction_in hr (pa_cons (pv 0) (pa_cons (pe_gi T.g_MOST_FIGURES) pa_nil))))
(pss_cons (ps_if (pt_cmpR op_isN (pv 1) pe_non (nomark _))
(pss_one (ps_raise rfl (takes_of rfl rfl rfl rfl) (pmk_i oi_NoText hr (pa_cons pe_int pa_nil))))
pss_nil)
(pss_one (ps_ret (pv 1)))))), ?_⟩
    have f0 : FmtV (.int 0) := .inr (.inr ⟨0, rfl, by decide⟩)
    have no : readD d = none → ∀ H1, Same H H1 → ∀ dd : Addr, H1 dd = none → E (.ref T.A.NoText) (some dd) (upd H1 dd (.xd [("row", .int 0)])) := fun e H1 s1 dd hd => kE e dd _ (s1.trans (Same.upd hd)) (same_none s1 hd) upd_same
    refine ⟨_, rfl, _, _, _, _, _, rfl, .ty _, hI.ty, kit_ty (kd_str d), _, rfl, ?_⟩
    cases hI with
    | str z =>
      refine iteF ?_
      have ez := txt_of z
      generalize z.cps.toList = l at ez
      subst ez
      have er : readD (.str (txt l)) = fracIn 60 l := by
        show fracIn 60 (txt l).cps.toList = _
        rw [txt_list]
      rw [er] at k no
      have ll : (txt l).length ≤ 900 := ll
      rw [txt_length] at ll
      refine ⟨_, rfl, l, 60, rfl, ll, by decide, by decide, fun e H1 s1 => ?_, fun x9 e9 p H1 s1 h1 => ?_⟩
      · exact ⟨_, rfl, rfl, _, rfl, iteT (mkx T.X_NoText f0 (no e H1 s1))⟩
      · exact ⟨_, rfl, rfl, _, rfl, iteF ⟨_, rfl, k _ e9 p H1 s1 h1⟩⟩
    | _ => exact iteT (mkx T.X_NoText f0 (no rfl H (Same.refl H)))
end
end Dear

namespace Dear
open PySem PySem.Spec PyProof.Rows L2
def spRefused : Sp := fun vs H Q _ => ∃ (v : V) (d : D), vs = [v] ∧ Dt H v d ∧ lenS d ≤ 900 ∧ readD d = none ∧ ∀ H', Same H H' → Q (.bl true) H'
section
variable {P : Program} {w : World} {K : PySem.W.Frag} {mg : Str → Option Value} {base : Heap}
theorem o__law_is_refused (T : Txt K mg) : OkF P w K mg base CX0 6 "_law_is_refused" ["_law_thing"] spRefused := by
  have o_read_fraction := o_read_fraction (P := P) (w := w) (base := base) T
  refine T.f__law_is_refused.ok c__law_is_refused (fun vs H Q E h => ?_) (fun f cdv A outer s H vs Q E hr h => ?_)
  · obtain ⟨v, d, rfl, _⟩ := h
    rfl
  · obtain ⟨v, d, rfl, hI, ll, bad, k⟩ := h
    refine ⟨_, (pss_cons (ps_set (i := 1) c__law_is_refused.nd rfl (Or.inl rfl) pe_non)
(pss_cons (ps_try_kept (i := 2) (j := 1) rfl rfl rfl c__law_is_refused.nd rfl rfl (by decide) rfl rfl ⟨rfl, by decide, Or.inl T.C_DearError⟩ takes0 (fun W pn xe tk _ =>
(pss_one (ps_expr (pe_cx o_read_fraction hr tk (pa_cons (pv 0) pa_nil))))))
(pss_cons (ps_if (PW.pt (pw_or (pt_not (pt_val (pe_callB (call_isY_k K) (by rfl) T.b_isinstance (by decide +kernel) (pa_cons (pv 1) (pa_cons (pe_glob (v := .ref T.A.NoText) rfl T.C_NoText rfl) pa_nil))))) (pw_or1 (pt_not (pt_val (pe_callB (call_isY_k K) (by rfl) T.b_isinstance (by decide +kernel) (pa_cons (pv 1) (pa_cons (pe_bltn (v := .ty "ValueError") (by rfl) T.b_ValueError (by decide +kernel) rfl) pa_nil))))))))
(pss_one (ps_ret pe_bl))
pss_nil)
(pss_cons (ps_if (pt_val (pe_callB (call_isYT_k K) (by rfl) T.b_isinstance (by decide +kernel) (pa_cons (pv 1) (pa_cons (pe_tup (pa_cons (pe_glob (v := .ref T.A.BadSign) rfl T.C_BadSign rfl) (pa_cons (pe_glob (v := .ref T.A.NoBook) rfl T.C_NoBook rfl) (pa_cons (pe_glob (v := .ref T.A.NoCount) rfl T.C_NoCount rfl) (pa_cons (pe_glob (v := .ref T.A.NoNumber) rfl T.C_NoNumber rfl) (pa_cons (pe_glob (v := .ref T.A.NoRow) rfl T.C_NoRow rfl) (pa_cons (pe_glob (v := .ref T.A.NoThing) rfl T.C_NoThing rfl) (pa_cons (pe_glob (v := .ref T.A.NoTongue) rfl T.C_NoTongue rfl) (pa_cons (pe_glob (v := .ref T.A.NoTree) rfl T.C_NoTree rfl) (pa_cons (pe_glob (v := .ref T.A.NoTurn) rfl T.C_NoTurn rfl) pa_nil)))))))))) pa_nil))))
(pss_one (ps_ret pe_bl))
pss_nil)
(pss_cons (ps_if (pt_val (pe_callB (call_isYT_k K) (by rfl) T.b_isinstance (by decide +kernel) (pa_cons (pv 1) (pa_cons (pe_tup (pa_cons (pe_glob (v := .ref T.A.NoUndo) rfl T.C_NoUndo rfl) (pa_cons (pe_glob (v := .ref T.A.NoWants) rfl T.C_NoWants rfl) (pa_cons (pe_glob (v := .ref T.A.TooMany) rfl T.C_TooMany rfl) (pa_cons (pe_glob (v := .ref T.A.Unknown) rfl T.C_Unknown rfl) pa_nil))))) pa_nil))))
(pss_one (ps_ret pe_bl))
pss_nil)
(pss_one (ps_ret (pe_and (pe_callB (call_isi_k K) (by rfl) T.b_isinstance (by decide +kernel) (pa_cons (pe_xfK K (pv 1)) (pa_cons (pe_bltn (v := .ty "int") (by rfl) T.b_int (by decide +kernel) rfl) pa_nil))) (pe_and (pe_not (pe_callB (call_isi_k K) (by rfl) T.b_isinstance (by decide +kernel) (pa_cons (pe_xfK K (pv 1)) (pa_cons (pe_bltn (v := .ty "bool") (by rfl) T.b_bool (by decide +kernel) rfl) pa_nil)))) (pe_one (pe_cmpR op_eq (pe_xfK K (pv 1)) pe_int (nomark _)))))))))))), ?_⟩
    refine ⟨_, rfl, v, d, rfl, hI, ll, fun x e => (by rw [bad] at e; cases e), fun _ dd H1 s1 hdd hx => ?_⟩
    refine ⟨true, T.m_NoText, fun _ a ha => ?_, fun q => nomatch q⟩
    have u1 := Same.upd (o := ExK (.ref T.A.NoText) (some dd) a) ha
    have eA : (upd H1 a (ExK (.ref T.A.NoText) (some dd) a)) a = some (ExK (.ref T.A.NoText) (some dd) a) := upd_same
    have s2 := s1.trans u1
    have hx2 := u1 _ _ hx
    generalize upd H1 a (ExK (.ref T.A.NoText) (some dd) a) = H2 at eA s2 hx2 ⊢
    have at2 : ∀ {H' : Hp}, Same H2 H' → ExAt H' T.A.NoText a := fun {H'} sx => .inr ⟨dd, _, sx _ _ eA, sx _ _ hx2⟩
    have lk : List.lookup ("row" : Str) [(("row" : Str), V.int 0)] = some (.int 0) := by simp [List.lookup]
    refine ⟨_, rfl, a, _, _, _, _, rfl, at2 (Same.refl _), T.X_NoText.c, .own _, T.q_NoText_NoText, _, rfl, iteF ?_⟩
    refine ⟨_, rfl, a, _, _, _, _, rfl, at2 (Same.refl _), T.X_NoText.c, .ty _, T.q_NoText_ValueError, _, rfl, iteF ?_⟩
    refine ⟨_, rfl, (by show 9 ≤ sizeLine; decide), fun p1 hp1 => ?_⟩
    have v1 := Same.upd (o := .tup [.ref T.A.BadSign, .ref T.A.NoBook, .ref T.A.NoCount, .ref T.A.NoNumber, .ref T.A.NoRow, .ref T.A.NoThing, .ref T.A.NoTongue, .ref T.A.NoTree, .ref T.A.NoTurn]) hp1
    refine ⟨a, _, p1, _, _, false, rfl, at2 v1, T.X_NoText.c, upd_same, cls_all (cs := [_, _, _, _, _, _, _, _, _]), kit_none ?_, _, rfl, iteF ?_⟩
    · intro x hx
      simp only [List.map_cons, List.map_nil, List.mem_cons, List.not_mem_nil, or_false] at hx
      rcases hx with rfl | rfl | rfl | rfl | rfl | rfl | rfl | rfl | rfl
      · exact T.q_NoText_BadSign
      · exact T.q_NoText_NoBook
      · exact T.q_NoText_NoCount
      · exact T.q_NoText_NoNumber
      · exact T.q_NoText_NoRow
      · exact T.q_NoText_NoThing
      · exact T.q_NoText_NoTongue
      · exact T.q_NoText_NoTree
      · exact T.q_NoText_NoTurn
    refine ⟨_, rfl, (by show 4 ≤ sizeLine; decide), fun p2 hp2 => ?_⟩
    have v2 := v1.trans (Same.upd (o := .tup [.ref T.A.NoUndo, .ref T.A.NoWants, .ref T.A.TooMany, .ref T.A.Unknown]) hp2)
    refine ⟨a, _, p2, _, _, false, rfl, at2 v2, T.X_NoText.c, upd_same, cls_all (cs := [_, _, _, _]), kit_none ?_, _, rfl, iteF ?_⟩
    · intro x hx
      simp only [List.map_cons, List.map_nil, List.mem_cons, List.not_mem_nil, or_false] at hx
      rcases hx with rfl | rfl | rfl | rfl
      · exact T.q_NoText_NoUndo
      · exact T.q_NoText_NoWants
      · exact T.q_NoText_TooMany
      · exact T.q_NoText_Unknown
    have eA9 := v2 _ _ eA
    have hx9 := v2 _ _ hx2
    refine ⟨_, rfl, a, _, dd, _, _, rfl, eA9, hx9, T.X_NoText.c, T.X_NoText.n, lk, _, _, _, _, _, rfl, .ty _, (Dt.int 0).ty, kit_ty (kd_int (.int 0)), _, rfl, iteT ?_⟩
    refine ⟨_, rfl, a, _, dd, _, _, rfl, eA9, hx9, T.X_NoText.c, T.X_NoText.n, lk, _, _, _, _, _, rfl, .ty _, (Dt.int 0).ty, kit_ty (kd_bool (.int 0)), _, rfl, _, rfl, iteT ?_⟩
    exact ⟨_, rfl, a, _, dd, _, _, rfl, eA9, hx9, T.X_NoText.c, T.X_NoText.n, lk, rfl, k _ (s2.trans v2)⟩
end
end Dear

namespace Dear
open PySem PySem.Spec PyProof.Rows L2
section
variable {P : Program} {w : World} {K : PySem.W.Frag} {mg : Str → Option Value} {base : Heap}
theorem ok_law (T : Txt K mg) {f : Addr} {fd : FuncData} (F : Fun K "law" "law" s_law f fd) : FnOk P w K mg base CX0 7 f fd ["_law_script"] (spLaw K) := by
  have o__law_pool := o__law_pool (P := P) (w := w) (base := base) T
  have o__law_take := o__law_take (P := P) (w := w) (base := base) T
  have o__law_great := o__law_great (P := P) (w := w) (base := base) T
  have o__law_low := o__law_low (P := P) (w := w) (base := base) T
  have o__law_odd := o__law_odd (P := P) (w := w) (base := base) T
  have o__law_is_refused := o__law_is_refused (P := P) (w := w) (base := base) T
  have o_read_fraction := o_read_fraction (P := P) (w := w) (base := base) T
  refine F.ok c_law (fun vs H Q E h => ?_) (fun cdv A outer s H vs Q E hr h => ?_)
  · obtain ⟨a, ns, rfl, _⟩ := h
    rfl
  · obtain ⟨a, ns, rfl, hS, hlen, k⟩ := h
    refine ⟨_, (pss_cons (ps_for PassesOwn.never rfl (pi_range1 (by rfl) T.b_range (pa_cons (pe_callB (call_max2 rfl) (by rfl) T.b_max (by decide +kernel) (pa_cons pe_int (pa_cons (pe_callB (call_min2 rfl) (by rfl) T.b_min (by decide +kernel) (pa_cons (pe_callB (call_len_seq_k K) (by rfl) T.b_len PySem.boot_len (pa_cons (pv 0) pa_nil)) (pa_cons pe_int pa_nil))) pa_nil))) pa_nil)) (pg_name (i := 1) c_law.nd rfl (Or.inl rfl))
(pss_cons (ps_set (i := 2) c_law.nd rfl (Or.inl rfl) (pe_c o__law_pool hr (pa_cons (pv 0) (pa_cons (pv 1) pa_nil))))
(pss_cons (ps_set (i := 3) c_law.nd rfl (Or.inl rfl) (pe_ix (ix_list_k K) (pe_lst (pa_cons (pe_c o__law_take hr (pa_cons (pv 2) (pa_cons pe_int pa_nil))) (pa_cons (pe_op op_fdivW (pe_c o__law_great hr (pa_cons (pv 2) pa_nil)) pe_int) pa_nil))) (pe_c o__law_take hr (pa_cons (pv 2) (pa_cons pe_int pa_nil))) (fun _ _ => rfl)))
(pss_cons (ps_set (i := 4) c_law.nd rfl (Or.inl rfl) (pe_ix (ix_list_k K) (pe_lst (pa_cons (pe_op op_add pe_int (pe_c o__law_take hr (pa_cons (pv 2) (pa_cons pe_int pa_nil)))) (pa_cons (pe_op op_add pe_int (pe_op op_fdivW (pe_c o__law_great hr (pa_cons (pv 2) pa_nil)) pe_int)) pa_nil))) (pe_c o__law_take hr (pa_cons (pv 2) (pa_cons pe_int pa_nil))) (fun _ _ => rfl)))
(pss_cons (ps_set (i := 5) c_law.nd rfl (Or.inl rfl) (pe_c o__law_odd hr (pa_cons (pv 2) (pa_cons (pe_tup (pa_cons (pv 3) (pa_cons (pv 4) pa_nil))) pa_nil))))
(C8.pss_cut (ps_if (pt_cmpR op_eq (pe_c o__law_take hr (pa_cons (pv 2) (pa_cons pe_int pa_nil))) pe_int (nomark _))
(pss_one (ps_set (i := 5) c_law.nd rfl (Or.inl rfl) (pe_ix (ix_list_k K) (pe_lst (pa_cons pe_non (pa_cons pe_int (pa_cons pe_bl (pa_cons (pe_lst (pa_cons pe_str pa_nil)) (pa_cons (pe_tup (pa_cons pe_int (pa_cons pe_int pa_nil))) (pa_cons pe_dnewK pa_nil))))))) (pe_c o__law_take hr (pa_cons (pv 2) (pa_cons pe_int pa_nil))) (fun _ _ => rfl))))
pss_nil)
(pss_cons (ps_if (pt_not (pt_val (pe_c o__law_is_refused hr (pa_cons (pv 5) pa_nil))))
(pss_one (ps_ret pe_bl))
pss_nil)
(pss_cons (ps_set (i := 6) c_law.nd rfl (Or.inl rfl) (pe_c o__law_low hr (pa_cons (pe_op op_add pe_int (pv 3)) (pa_cons (pv 4) pa_nil))))
(pss_cons (ps_set (i := 7) c_law.nd rfl (Or.inl rfl) (pe_op op_add_str (pe_op op_add_str (pe_callTy call_str_int (by rfl) T.b_str (by decide +kernel) (pa_cons (pe_ix (ix_tup_k K) (pv 6) pe_int (fun _ _ => rfl)) pa_nil)) pe_str) (pe_callTy call_str_int (by rfl) T.b_str (by decide +kernel) (pa_cons (pe_ix (ix_tup_k K) (pv 6) pe_int (fun _ _ => rfl)) pa_nil))))
(C8.pss_cut (ps_if (pt_cmpR op_eq (pe_ix (ix_tup_k K) (pv 6) pe_int (fun _ _ => rfl)) pe_int (nomark _))
(pss_one (ps_set (i := 7) c_law.nd rfl (Or.inl rfl) (pe_callTy call_str_int (by rfl) T.b_str (by decide +kernel) (pa_cons (pe_ix (ix_tup_k K) (pv 6) pe_int (fun _ _ => rfl)) pa_nil))))
pss_nil)
(pss_one (ps_if (pt_cmpR (op_neD_k K hr.units) (pe_cx o_read_fraction hr takes0 (pa_cons (pv 7) pa_nil)) (pv 6) (nomark _))
(pss_one (ps_ret pe_bl))
pss_nil))))))))))))
(pss_one (ps_ret pe_bl))), ?_⟩
    refine ⟨_, rfl, _, _, rfl, .inl hS, _, _, rfl, _, _, rfl, _, rfl, ?_, ?_, for_range (lo := 0) (fun i σ H' => Same H H' ∧ ∃ v1 v2 v3 v4 v5 v6 v7, σ = [some (.ref a), v1, v2, v3, v4, v5, v6, v7]) ⟨.refl _, _, _, _, _, _, _, _, rfl⟩ ?_ ?_⟩
    · (repeat' split) <;> omega
    · (repeat' split) <;> omega
    · rintro i σ H1 hi ⟨s1, v1, v2, v3, v4, v5, v6, v7, rfl⟩
      have i63 : i < 63 := Nat.lt_of_lt_of_le hi (by (repeat' split) <;> omega)
      rw [Int.zero_add]
      refine ⟨_, rfl, _, rfl, a, ns, _, rfl, s1.seq hS, by omega, by omega, fun l H2 hl s2 S2 => ?_⟩
      have p60 : (10 : Int) ^ 60 = 100 * 10 ^ 58 := by decide
      have p58 : (10 : Int) ^ 58 = ((10 ^ 58 : Nat) : Int) := by decide
      have p20 : (20 : Nat) ≤ 10 ^ 58 := by decide
      -- the top
      refine ⟨_, rfl, l, 20, rfl, S2, by decide, log_le 20 (by decide), fun r3 H3 r30 r31 B3 S3 => ?_⟩
      refine ⟨_, rfl, l, rfl, S3, fun r4 H4 r40 r41 B4 S4 => ⟨_, _, rfl, rfl, ⟨by decide, by decide⟩, (by show 2 ≤ sizeLine; decide), fun p5 hp5 => ?_⟩⟩
      have u5 := Same.upd (o := .lst [.int r3, .int (r4 / 100)]) hp5
      have n5 : p5 ≠ l := S4.ne hp5
      refine ⟨_, rfl, l, 2, rfl, S4.same u5, by decide, log_le 2 (by decide), fun r6 H6 r60 r61 B6 S6 => ?_⟩
      obtain ⟨x, hx, hm, _⟩ := at_lt (xs := [V.int r3, V.int (r4 / 100)]) r60 r61
      obtain ⟨t, rfl, t9⟩ : ∃ t : Nat, x = .int (t : Nat) ∧ t < 10 ^ 58 := by
        simp only [List.mem_cons, List.not_mem_nil, or_false] at hm
        rcases hm with rfl | rfl
        · exact ⟨r3.toNat, by rw [Int.toNat_of_nonneg r30], by omega⟩
        · exact ⟨(r4 / 100).toNat, by rw [Int.toNat_of_nonneg (by omega)], by omega⟩
      refine ⟨_, _, _, _, rfl, rfl, SqL.of (B6 _ _ upd_same n5), hx, ?_⟩
      have B26 : But l H2 H6 := ((B3.trans B4).trans (.of u5)).trans B6
      clear hx hm
      -- the bottom
      refine ⟨_, rfl, l, 12, rfl, S6, by decide, log_le 12 (by decide), fun r7 H7 r70 r71 B7 S7 => ⟨_, _, rfl, rfl, ?_⟩⟩
      refine ⟨_, rfl, l, rfl, S7, fun r8 H8 r80 r81 B8 S8 => ⟨_, _, rfl, rfl, ⟨by decide, by decide⟩, _, _, rfl, rfl, (by show 2 ≤ sizeLine; decide), fun p9 hp9 => ?_⟩⟩
      have u9 := Same.upd (o := .lst [.int (2 + r7), .int (2 + r8 / 100)]) hp9
      have n9 : p9 ≠ l := S8.ne hp9
      refine ⟨_, rfl, l, 2, rfl, S8.same u9, by decide, log_le 2 (by decide), fun r10 H10 r100 r101 B10 S10 => ?_⟩
      obtain ⟨x, hx, hm, _⟩ := at_lt (xs := [V.int (2 + r7), V.int (2 + r8 / 100)]) r100 r101
      obtain ⟨b, rfl, b2, b9⟩ : ∃ b : Nat, x = .int (b : Nat) ∧ 2 ≤ b ∧ b < 10 ^ 58 + 3 := by
        simp only [List.mem_cons, List.not_mem_nil, or_false] at hm
        rcases hm with rfl | rfl
        · exact ⟨(2 + r7).toNat, by rw [Int.toNat_of_nonneg (by omega)], by omega, by omega⟩
        · exact ⟨(2 + r8 / 100).toNat, by rw [Int.toNat_of_nonneg (by omega)], by omega, by omega⟩
      refine ⟨_, _, _, _, rfl, rfl, SqL.of (B10 _ _ upd_same n9), hx, ?_⟩
      have B2x : But l H2 H10 := ((((B26.trans B7).trans B8).trans (.of u9))).trans B10
      clear hx hm
      -- the odd one
      refine ⟨_, rfl, _, rfl, _, rfl, (by show 2 ≤ sizeLine; decide), fun p11 hp11 => ?_⟩
      have u11 := Same.upd (o := .tup [.int (t : Nat), .int (b : Nat)]) hp11
      refine ⟨l, p11, t, b, rfl, S10.same u11, upd_same, t9, b9, b2, fun o H12 ob ol B12 S12 => ?_⟩
      have B212 := (B2x.trans (.of u11)).trans B12
      refine ⟨fun σ' H' => Same H1 H' ∧ ∃ (v : V) (d : D) (v1 v2 v6 v7 : Option V), σ' = [some (.ref a), v1, v2, some (.int (t : Nat)), some (.int (b : Nat)), some v, v6, v7] ∧ Dt H' v d ∧ lenS d ≤ 900 ∧ readD d = none, ?_, ?_⟩
      · refine ⟨_, rfl, l, 8, rfl, S12, by decide, log_le 8 (by decide), fun r13 H13 _ _ B13 S13 => ⟨rfl, _, rfl, itd (fun _ => ?_) fun _ => ?_⟩⟩
        · refine MkNA.go (by exact (mkna_cons (mkn_c fun _ => .non) (mkna_cons (mkn_c fun _ => .int _) (mkna_cons (mkn_c fun _ => .bl _) (mkna_cons (mkn_lst (mkna_cons (mkn_c fun _ => .str _) mkna_nil)) (mkna_cons (mkn_tup (mkna_cons (mkn_c fun _ => .int _) (mkna_cons (mkn_c fun _ => .int _) mkna_nil))) (mkna_cons mkn_dnew mkna_nil))))))) fun vs H14 s14 d14 => ⟨sz_lit (by rw [d14.length]; exact Nat.le_of_ble_eq_true rfl), fun p15 hp15 => ?_⟩
          have u15 := Same.upd (o := .lst vs) hp15
          have S15 := (S13.same s14).same u15
          have n15 : p15 ≠ l := (S13.same s14).ne hp15
          refine ⟨_, rfl, l, 6, rfl, S15, by decide, log_le 6 (by decide), fun r16 H16 r160 r161 B16 S16 => ?_⟩
          obtain ⟨v, hv, _, hr9⟩ := at_lt (xs := vs) r160 (by rw [d14.length]; exact r161)
          obtain ⟨d, hd, hD⟩ := d14.get hr9
          refine ⟨_, _, _, _, rfl, rfl, SqL.of (B16 _ _ upd_same n15), hv, ?_⟩
          obtain ⟨xs0, hl0⟩ := S13.lst
          refine ⟨But.same0 s2 hl (((B212.trans B13).trans (.of (s14.trans u15))).trans B16), v, d, _, _, _, _, rfl, ((hD.same (New.mono u15)).same (New.but hl0 B16)).same (New.sub _ _), ?_, ?_⟩
          · have := List.mem_of_getElem? hd
            simp only [List.mem_cons, List.not_mem_nil, or_false] at this
            rcases this with rfl | rfl | rfl | rfl | rfl | rfl <;> exact Nat.zero_le _
          · have := List.mem_of_getElem? hd
            simp only [List.mem_cons, List.not_mem_nil, or_false] at this
            rcases this with rfl | rfl | rfl | rfl | rfl | rfl <;> rfl
        · refine ⟨But.same0 s2 hl (B212.trans B13), _, .str (txt o), _, _, _, _, rfl, .str _, ?_, ?_⟩
          · show (txt o).length ≤ 900
            rw [txt_length]
            omega
          · show fracIn 60 (txt o).cps.toList = none
            rw [txt_list]
            exact ob
      rintro σ' H16 ⟨s16, v, d, v1, v2, v6, v7, rfl, hD, ld, rd⟩
      refine ⟨_, rfl, v, d, rfl, hD, ld, rd, fun H17 s17 => ⟨_, rfl, iteF ?_⟩⟩
      -- a right one
      refine ⟨_, rfl, _, _, rfl, rfl, _, rfl, 1 + (t : Nat), b, rfl, by omega, by omega, ?_, fun p18 H18 hp18 s18 h18 => ?_⟩
      · exact log_small (n := 250) (by decide) (Nat.lt_trans b9 (by decide)) (by decide)
      obtain ⟨g1, g2⟩ := low_fr (1 + (t : Nat)) b (by omega)
      obtain ⟨g3, g4⟩ := low_small (1 + (t : Nat)) b (by omega)
      have g5 : 0 ≤ lowT (1 + (t : Nat)) b := Int.ediv_nonneg (by omega) (by omega)
      generalize lowT (1 + (t : Nat)) b = tt at *
      generalize lowB (1 + (t : Nat)) b = bb at *
      obtain ⟨n1, rfl⟩ := Int.eq_ofNat_of_zero_le g5
      obtain ⟨m1, rfl⟩ := Int.eq_ofNat_of_zero_le (Int.le_of_lt g1)
      have l1 : n1 < 10 ^ 60 := by
        have : (10 : Nat) ^ 60 = 100 * 10 ^ 58 := by decide
        omega
      have l2 : m1 < 10 ^ 60 := by
        have : (10 : Nat) ^ 60 = 100 * 10 ^ 58 := by decide
        omega
      have big : (10 : Nat) ^ 60 < 2 ^ 250 := by decide
      have h1 := Nat.lt_trans l1 big
      have h2 := Nat.lt_trans l2 big
      have f1 := fig_len250 h1
      have f2 := fig_len250 h2
      dsimp only
      refine s_seq (s_set ?_)
      refine MkS.go (l := figL n1 ++ [47] ++ figL m1) (by exact (mks_add (mks_add (mks_str (n := n1) h1 fun H1 s Q q => ⟨_, rfl, _, _, _, _, rfl, rfl, SqT.of (s _ _ h18), rfl, q⟩) (mks_c (by decide +kernel))) (mks_str (n := m1) h2 fun H1 s Q q => ⟨_, rfl, _, _, _, _, rfl, rfl, SqT.of (s _ _ h18), rfl, q⟩))) (by rw [List.length_append, List.length_append]; show _ + 1 + _ ≤ 1000; omega) ?_
      refine ⟨fun σ' H' => H' = H18 ∧ ∃ v1 v2 v3 v4 v5 : Option V, σ' = [some (.ref a), v1, v2, v3, v4, v5, some (.ref p18), some (.str (txt (fracL n1 m1)))], ?_, ?_⟩
      · have lt1 : ((n1 : Nat) : Int).natAbs.log2 < 1920 := Nat.lt_of_lt_of_le (PySem.Flt.log2_lt_of (by decide) h1) (by decide)
        have fl : fracL n1 m1 = figL n1 ++ (if ((m1 : Nat) : Int) = 1 then [] else 47 :: figL m1) := by
          unfold fracL
          rw [if_neg (by omega)]
          rfl
        refine ⟨_, rfl, _, _, _, _, rfl, rfl, SqT.of h18, rfl, rfl, _, rfl, itd (fun e => ?_) fun e => ?_⟩
        · have e : ((m1 : Nat) : Int) = 1 := by injection e
          refine ⟨_, rfl, _, _, _, _, rfl, rfl, SqT.of h18, rfl, _, rfl, lt1, ?_⟩
          rw [show (toString ((n1 : Nat) : Int) : Str) = txt (figL n1) from str_num n1, fl, if_pos e, List.append_nil]
          exact ⟨rfl, _, _, _, _, _, rfl⟩
        · have e : ¬ ((m1 : Nat) : Int) = 1 := fun z => e (by rw [z])
          have e2 : fracL n1 m1 = figL n1 ++ [47] ++ figL m1 := by
            rw [fl, if_neg e, List.append_assoc]
            rfl
          rw [e2]
          exact ⟨rfl, _, _, _, _, _, rfl⟩
      rintro σ' H19 ⟨rfl, v1, v2, v3, v4, v5, rfl⟩
      have fb := frac_back (t := (n1 : Nat)) (b := (m1 : Nat)) g1 g2 l1 l2
      have er : readD (.str (txt (fracL n1 m1))) = some (((n1 : Nat) : Int), ((m1 : Nat) : Int)) := by
        show fracIn 60 (txt (fracL n1 m1)).cps.toList = _
        rw [txt_list]
        exact fb
      have ll : lenS (.str (txt (fracL n1 m1))) ≤ 900 := by
        show (txt (fracL n1 m1)).length ≤ 900
        rw [txt_length]
        unfold fracL
        rw [List.length_append, List.length_append, Int.natAbs_natCast, Int.natAbs_natCast]
        have e1 : (if ((n1 : Nat) : Int) < 0 then [45] else ([] : List Nat)).length ≤ 1 := by split <;> decide
        have e2 : (if ((m1 : Nat) : Int) = 1 then ([] : List Nat) else 47 :: figL m1).length ≤ 101 := by
          split
          · exact Nat.zero_le _
          · exact Nat.succ_le_succ f2
        omega
      refine ⟨_, rfl, _, _, rfl, .str _, ll, fun x ex p20 H20 s20 h20 => ?_, fun e => (by rw [er] at e; cases e)⟩
      rw [er] at ex
      injection ex with ex
      subst ex
      refine ⟨_, rfl, _, _, .tup (SqT.of h20) (.cons (.int _) (.cons (.int _) .nil)), .tup (SqT.of (s20 _ _ h18)) (.cons (.int _) (.cons (.int _) .nil)), shaped_tt _ _, shaped_tt _ _, ?_⟩
      rw [eqv_same (shaped_tt _ _)]
      exact ⟨_, rfl, iteF ⟨s1.trans (s16.trans (s17.trans (s18.trans s20))), _, _, _, _, _, _, _, rfl⟩⟩
    · rintro σ H1 ⟨s1, v1, v2, v3, v4, v5, v6, v7, rfl⟩
      exact k _
end
end Dear

namespace Dear
open PySem PySem.Spec PyProof.Rows L2
theorem walk {l : PySem.W.OpenLaw} {q : Program} {loose : List Str} {XP : (Str → Option Value) → Heap → Prop} {YP : World → Heap → Prop} {d : DefRec} {K : Params → PySem.W.Frag} (hn : l.most = some 63) (hdf : d.params.defaults = [])
    (hY : ∀ (w : World) (h : Heap), YP w h → (K w.params).In h)
    (F : ∀ (w : World) (mg : Str → Option Value) (fa : Addr) (h : Heap), (K w.params).In h → h.Ns mainGlobals mg → mg d.name = some (.ref fa) →
      ∃ fd : FuncData, (∀ (s : Shared) (u : Value), BindsTo s fd ⟨[u], []⟩ [("_law_script", u)]) ∧ ∀ base : Heap, (K w.params).In base → base.Ns mainGlobals mg → FnOk l.prog w (K w.params) mg base CX0 20 fa fd ["_law_script"] (spLaw (K w.params))) :
    PySem.W.WalkO q loose XP YP l.row.toRowW d [] (fun f vs => PySem.call f vs) :=
  L2.walk_of (n := 63) (k := 20) (x := "_law_script") (CX := fun _ => CX0) (sp := fun w => spLaw (K w.params)) hn (by decide) hdf ⟨rfl, by decide, by decide⟩ hY F (fun _ _ a ns hl _ hS => ⟨a, ns, rfl, hS, hl, fun _ => rfl⟩) fun _ _ _ _ _ z => z
theorem fin {l : PySem.W.OpenLaw} {w : World} {K : PySem.W.Frag} {h : Heap} {mg : Str → Option Value} {fa : Addr} (X : K.In h) (G : h.Ns mainGlobals mg) (hfa : mg "law" = some (.ref fa)) (T : Txt K mg) :
    ∃ fd : FuncData, (∀ (s : Shared) (v : Value), BindsTo s fd ⟨[v], []⟩ [("_law_script", v)]) ∧ ∀ base : Heap, K.In base → base.Ns mainGlobals mg → FnOk l.prog w K mg base CX0 20 fa fd ["_law_script"] (spLaw K) := by
  obtain ⟨f, fd, hm, F, hb⟩ := id T.f_law
  have e := hfa.symm.trans hm
  cases e
  refine ⟨fd, fun s v => ?_, fun base _ _ => (ok_law T F).mono (by decide)⟩
  obtain ⟨oc, od, kV, doc, pm, an, cdv, ct, osl, rfl, lk, hcd⟩ := F.ex
  exact .of_eq rfl
end Dear

open PySem PySem.W PyProof.Rows
set_option maxRecDepth 100000 in
set_option maxHeartbeats 0 in
theorem PySem.Challenge.cw_dearsigns_k62_fractions_refused_holds : PySem.Challenge.rw_dearsigns_k62_fractions_refused.Holds := by
  w_on; o_law; k_head; (case hw => w_witness2)
  k_fill
  refine Dear.walk (l := PySem.Challenge.rw_dearsigns_k62_fractions_refused) rfl rfl (fun w h Y => PySem.W.kIn_of Y) ?F
  case F =>
    intro w mg fa h KX G hmg
    refine Dear.fin KX G hmg ?T
    case T =>
      refine' Dear.txt_mk KX G ?g_DearError ?i_DearError ?t_DearError ?g_NoNumber ?i_NoNumber ?t_NoNumber ?g_NoBook ?i_NoBook ?t_NoBook ?g_NoTree ?i_NoTree ?t_NoTree ?g_TooMany ?i_TooMany ?t_TooMany ?g_NoCount ?i_NoCount ?t_NoCount ?g_NoUndo ?i_NoUndo ?t_NoUndo ?g_NoTurn ?i_NoTurn ?t_NoTurn ?g_NoRow ?i_NoRow ?t_NoRow ?g_Unknown ?i_Unknown ?t_Unknown ?g_NoTongue ?i_NoTongue ?t_NoTongue ?g_NoWants ?i_NoWants ?t_NoWants ?g_NoThing ?i_NoThing ?t_NoThing ?g_BadSign ?i_BadSign ?t_BadSign ?g_NoText ?i_NoText ?t_NoText ?b_DearError ?x1_NoNumber ?x2_NoNumber ?x3_NoNumber ?x4_NoNumber ?x5_NoNumber ?x6_NoNumber ?x7_NoNumber ?x8_NoNumber ?x9_NoNumber ?x10_NoNumber ?x11_NoNumber ?d1 ?d2 ?d3 ?xl_NoText ?sa_NoText ?x2_NoText ?x3_NoText ?x4_NoText ?x5_NoText ?x6_NoText ?x7_NoText ?x8_NoText ?x9_NoText ?x10_NoText ?x11_NoText ?fn_NoText ?i1_NoText ?i2_NoText ?i3_NoText ?i4_NoText ?i5_NoText ?q_NoNumber_DearError ?n_NoNumber_DearError ?q_NoNumber_NoNumber ?q_NoNumber_NoBook ?n_NoNumber_NoBook ?q_NoNumber_NoTree ?n_NoNumber_NoTree ?q_NoNumber_TooMany ?n_NoNumber_TooMany ?q_NoNumber_NoCount ?n_NoNumber_NoCount ?q_NoNumber_NoUndo ?n_NoNumber_NoUndo ?q_NoNumber_NoTurn ?n_NoNumber_NoTurn ?q_NoNumber_NoRow ?n_NoNumber_NoRow ?q_NoNumber_Unknown ?n_NoNumber_Unknown ?q_NoNumber_NoTongue ?n_NoNumber_NoTongue ?q_NoNumber_NoWants ?n_NoNumber_NoWants ?q_NoNumber_NoThing ?n_NoNumber_NoThing ?q_NoNumber_BadSign ?n_NoNumber_BadSign ?q_NoNumber_NoText ?n_NoNumber_NoText ?q_NoNumber_ValueError ?q_NoText_DearError ?n_NoText_DearError ?q_NoText_NoNumber ?n_NoText_NoNumber ?q_NoText_NoBook ?n_NoText_NoBook ?q_NoText_NoTree ?n_NoText_NoTree ?q_NoText_TooMany ?n_NoText_TooMany ?q_NoText_NoCount ?n_NoText_NoCount ?q_NoText_NoUndo ?n_NoText_NoUndo ?q_NoText_NoTurn ?n_NoText_NoTurn ?q_NoText_NoRow ?n_NoText_NoRow ?q_NoText_Unknown ?n_NoText_Unknown ?q_NoText_NoTongue ?n_NoText_NoTongue ?q_NoText_NoWants ?n_NoText_NoWants ?q_NoText_NoThing ?n_NoText_NoThing ?q_NoText_BadSign ?n_NoText_BadSign ?q_NoText_NoText ?q_NoText_ValueError ?a1 ?l1 ?c1 ?k1 ?a2 ?l2 ?c2 ?k2 ?a3 ?l3 ?c3 ?k3 ?a4 ?l4 ?c4 ?k4 ?d4 ?a5 ?l5 ?c5 ?k5 ?a6 ?l6 ?c6 ?k6 ?a7 ?l7 ?c7 ?k7 ?a8 ?l8 ?c8 ?k8 ?a9 ?l9 ?c9 ?k9 ?a10 ?l10 ?c10 ?k10 ?a11 ?l11 ?c11 ?k11 ?a12 ?l12 ?c12 ?k12 ?a13 ?l13 ?c13 ?k13 ?a14 ?l14 ?c14 ?k14 ?a15 ?a16 ?a17 ?a18 ?a19 ?a20 ?a21 ?a22 ?a23 ?a24 ?a25 ?a26 ?a27
      (case g_DearError => k_is); (case i_DearError => k_is); (case t_DearError => k_is); (case g_NoNumber => k_is); (case i_NoNumber => k_is); (case t_NoNumber => k_is); (case g_NoBook => k_is); (case i_NoBook => k_is)
      (case t_NoBook => k_is); (case g_NoTree => k_is); (case i_NoTree => k_is); (case t_NoTree => k_is); (case g_TooMany => k_is); (case i_TooMany => k_is); (case t_TooMany => k_is); (case g_NoCount => k_is)
      (case i_NoCount => k_is); (case t_NoCount => k_is); (case g_NoUndo => k_is); (case i_NoUndo => k_is); (case t_NoUndo => k_is); (case g_NoTurn => k_is); (case i_NoTurn => k_is); (case t_NoTurn => k_is)
      (case g_NoRow => k_is); (case i_NoRow => k_is); (case t_NoRow => k_is); (case g_Unknown => k_is); (case i_Unknown => k_is); (case t_Unknown => k_is); (case g_NoTongue => k_is); (case i_NoTongue => k_is)
      (case t_NoTongue => k_is); (case g_NoWants => k_is); (case i_NoWants => k_is); (case t_NoWants => k_is); (case g_NoThing => k_is); (case i_NoThing => k_is); (case t_NoThing => k_is); (case g_BadSign => k_is)
      (case i_BadSign => k_is); (case t_BadSign => k_is); (case g_NoText => k_is); (case i_NoText => k_is); (case t_NoText => k_is); (case b_DearError => k_is); (case x1_NoNumber => k_exc); (case x2_NoNumber => k_is)
      (case x3_NoNumber => k_is); (case x4_NoNumber => k_is); (case x5_NoNumber => k_is); (case x6_NoNumber => k_is); (case x7_NoNumber => k_is); (case x8_NoNumber => k_is); (case x9_NoNumber => k_is); (case x10_NoNumber => k_is)
      (case x11_NoNumber => k_is); (case d1 => k_is); (case d2 => k_is); (case d3 => k_is); (case xl_NoText => k_is); (case sa_NoText => k_is); (case x2_NoText => k_is); (case x3_NoText => k_is)
      (case x4_NoText => k_is); (case x5_NoText => k_is); (case x6_NoText => k_is); (case x7_NoText => k_is); (case x8_NoText => k_is); (case x9_NoText => k_is); (case x10_NoText => k_is); (case x11_NoText => k_is)
      (case fn_NoText => k_is); (case i1_NoText => k_is); (case i2_NoText => k_is); (case i3_NoText => k_is); (case i4_NoText => k_is); (case i5_NoText => k_is); (case q_NoNumber_DearError => k_is); (case n_NoNumber_DearError => rfl)
      (case q_NoNumber_NoNumber => k_is); (case q_NoNumber_NoBook => k_is); (case n_NoNumber_NoBook => rfl); (case q_NoNumber_NoTree => k_is); (case n_NoNumber_NoTree => rfl); (case q_NoNumber_TooMany => k_is); (case n_NoNumber_TooMany => rfl); (case q_NoNumber_NoCount => k_is)
      (case n_NoNumber_NoCount => rfl); (case q_NoNumber_NoUndo => k_is); (case n_NoNumber_NoUndo => rfl); (case q_NoNumber_NoTurn => k_is); (case n_NoNumber_NoTurn => rfl); (case q_NoNumber_NoRow => k_is); (case n_NoNumber_NoRow => rfl); (case q_NoNumber_Unknown => k_is)
      (case n_NoNumber_Unknown => rfl); (case q_NoNumber_NoTongue => k_is); (case n_NoNumber_NoTongue => rfl); (case q_NoNumber_NoWants => k_is); (case n_NoNumber_NoWants => rfl); (case q_NoNumber_NoThing => k_is); (case n_NoNumber_NoThing => rfl); (case q_NoNumber_BadSign => k_is)
      (case n_NoNumber_BadSign => rfl); (case q_NoNumber_NoText => k_is); (case n_NoNumber_NoText => rfl); (case q_NoNumber_ValueError => k_is); (case q_NoText_DearError => k_is); (case n_NoText_DearError => rfl); (case q_NoText_NoNumber => k_is); (case n_NoText_NoNumber => rfl)
      (case q_NoText_NoBook => k_is); (case n_NoText_NoBook => rfl); (case q_NoText_NoTree => k_is); (case n_NoText_NoTree => rfl); (case q_NoText_TooMany => k_is); (case n_NoText_TooMany => rfl); (case q_NoText_NoCount => k_is); (case n_NoText_NoCount => rfl)
      (case q_NoText_NoUndo => k_is); (case n_NoText_NoUndo => rfl); (case q_NoText_NoTurn => k_is); (case n_NoText_NoTurn => rfl); (case q_NoText_NoRow => k_is); (case n_NoText_NoRow => rfl); (case q_NoText_Unknown => k_is); (case n_NoText_Unknown => rfl)
      (case q_NoText_NoTongue => k_is); (case n_NoText_NoTongue => rfl); (case q_NoText_NoWants => k_is); (case n_NoText_NoWants => rfl); (case q_NoText_NoThing => k_is); (case n_NoText_NoThing => rfl); (case q_NoText_BadSign => k_is); (case n_NoText_BadSign => rfl)
      (case q_NoText_NoText => k_is); (case q_NoText_ValueError => k_is); (case a1 => k_is); (case l1 => k_is); (case c1 => k_is); (case k1 => k_is); (case a2 => k_is); (case l2 => k_is)
      (case c2 => k_is); (case k2 => k_is); (case a3 => k_is); (case l3 => k_is); (case c3 => k_is); (case k3 => k_is); (case a4 => k_is); (case l4 => k_is)
      (case c4 => k_is); (case k4 => k_is); (case d4 => k_is); (case a5 => k_is); (case l5 => k_is); (case c5 => k_is); (case k5 => k_is); (case a6 => k_is)
      (case l6 => k_is); (case c6 => k_is); (case k6 => k_is); (case a7 => k_is); (case l7 => k_is); (case c7 => k_is); (case k7 => k_is); (case a8 => k_is)
      (case l8 => k_is); (case c8 => k_is); (case k8 => k_is); (case a9 => k_is); (case l9 => k_is); (case c9 => k_is); (case k9 => k_is); (case a10 => k_is)
      (case l10 => k_is); (case c10 => k_is); (case k10 => k_is); (case a11 => k_is); (case l11 => k_is); (case c11 => k_is); (case k11 => k_is); (case a12 => k_is)
      (case l12 => k_is); (case c12 => k_is); (case k12 => k_is); (case a13 => k_is); (case l13 => k_is); (case c13 => k_is); (case k13 => k_is); (case a14 => k_is)
      (case l14 => k_is); (case c14 => k_is); (case k14 => k_is); (case a15 => k_is); (case a16 => k_is); (case a17 => k_is); (case a18 => k_is); (case a19 => k_is)
      (case a20 => k_is); (case a21 => k_is); (case a22 => k_is); (case a23 => k_is); (case a24 => k_is); (case a25 => k_is); (case a26 => k_is); (case a27 => k_is)
#print axioms PySem.Challenge.cw_dearsigns_k62_fractions_refused_holds

