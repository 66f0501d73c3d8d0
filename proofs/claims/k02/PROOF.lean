import PyProof.Rows.All
import Wide.All
import OpenK.AllK
import Wide.FinOn
import HandS.ForMost
import HandS.Wide
import HandS.IsInst
import HandS.Flow
import HandS.Walk
import HandS.Strs
import HandS.Style
import HandS.Exc
import HandS.Codes
import HandS.ForExc
import HandS.ExcIs
import HandS.Defaults
import Flt.Len
import PySem.Challenge.RW_dearsigns_k02_fractions_reckoned
set_option Elab.async false
set_option linter.all false
set_option maxRecDepth 100000
set_option maxHeartbeats 4000000

namespace Dear
open PySem PySem.Spec PyProof.Rows L2
/-! ### a def of the text, and a def with its promise -/
def Df (K : PySem.W.Frag) (mg : Str → Option Value) (x : Str) (st : Stmt) (ps : List Str) : Prop :=
  ∃ (f : Addr) (fd : FuncData), mg x = some (.ref f) ∧ Fun K x x st f fd ∧ Binds K fd ps []
def OkF (P : Program) (w : World) (K : PySem.W.Frag) (mg : Str → Option Value) (base : Heap) (CX : CXT) (k : Nat) (x : Str) (ps : List Str) (sp : Sp) : Prop :=
  ∃ (f : Addr) (fd : FuncData), mg x = some (.ref f) ∧ PySem.W.keepIn K (.ref f) = true ∧ Binds K fd ps [] ∧ FnOk P w K mg base CX k f fd ps sp
section
variable {P : Program} {w : World} {K : PySem.W.Frag} {mg : Str → Option Value} {base : Heap}
theorem Df.ok {x : Str} {st : Stmt} {N ps : List Str} {k : Nat} {sp : Sp} (D : Df K mg x st ps) (S : FnScope N ps (defScope st)) (len : ∀ vs H Q E, sp vs H Q E → vs.length = ps.length)
    (hbody : ∀ (f : Addr) (cdv : Value) (A : Around) (outer : List Env) (s : Shared) (H : Hp) (vs : List V) (Q : VK) (E : XK), Room k (A.deeper (envOfC x (defScope st) s.heap.objs.size f cdv)) → sp vs H Q E →
      ∃ t, PSs (cxOf CX0 P w K mg base N x (defScope st) f cdv A outer s H E).nox (defBody st) t ∧ t { nx := fun _ H' => Q .non H', rt := Q } (start N vs) H) : OkF P w K mg base CX0 (k + 1) x ps sp := by
  obtain ⟨f, fd, hm, F, hb⟩ := D
  exact ⟨f, fd, hm, F.kp, hb, F.ok S len (hbody f)⟩
end
section
variable {X : Cx}
theorem pe_c {k k' : Nat} {x : Str} {ps : List Str} {sp : Sp} {e : Expr} {es : List Expr} {t : TA} {p pos : Pos} (O : OkF X.prog X.w X.K X.mg X.base CX0 k x ps sp) (hr : Room k' X.A) (ha : PA X (e :: es) t) (hk : k ≤ k' := by decide) (hg : Gl X x := by rfl)
    (hdb : (x == ("__debug__" : Str)) = false := by decide) (he : starEach (e :: es) X.env = (false, eval e X.env) :: starEach es X.env := by rfl) (hpl : (backTo pos (starEach es X.env)).any (·.1) = false := by rfl) :
    PE X (.Call (.Name x p) (e :: es) [] pos) (tCall sp [] E0 t) := by
  obtain ⟨f, fd, hm, hkp, hb, F⟩ := O
  exact pe_call F (hr.mono hk) hg hm hkp hb .nil pass0 ha hdb he hpl
theorem pe_gi {x : Str} {i : Int} {pos : Pos} (h : ∃ t, X.mg x = some (.int i t)) (hg : Gl X x := by rfl) (hd : (x == ("__debug__" : Str)) = false := by decide) : PE X (.Name x pos) (tC (.int i)) := by
  obtain ⟨t, h⟩ := h
  exact pe_glob hg h ⟨_, rfl⟩ hd
theorem pe_gs {x : Str} {z : Str} {pos : Pos} (h : ∃ t, X.mg x = some (.str z t)) (hg : Gl X x := by rfl) (hd : (x == ("__debug__" : Str)) = false := by decide) : PE X (.Name x pos) (tC (.str z)) := by
  obtain ⟨t, h⟩ := h
  exact pe_glob hg h ⟨_, rfl⟩ hd
end
/-! ### the rules with the written part K named -/
section
variable {X : Cx} (K : PySem.W.Frag)
theorem ix_list_k (h : X.K = K := by rfl) : IxR X (rIxL K) := h ▸ ix_list
theorem ix_tup_k (h : X.K = K := by rfl) : IxR X (rIxT K) := h ▸ ix_tup
theorem sl_list_k (h : X.K = K := by rfl) : SlR X (rSlL K) := h ▸ sl_list
theorem sl_tup_k (h : X.K = K := by rfl) : SlR X (rSlT K) := h ▸ sl_tup
theorem op_in_seq_k (h : X.K = K := by rfl) : OpR X (compareOp .In) (rIn K false) := h ▸ op_in_seq
theorem op_notIn_seq_k (h : X.K = K := by rfl) : OpR X (compareOp .NotIn) (rIn K true) := h ▸ op_notIn_seq
def rLen : List V → Hp → VK → Prop := fun xs H Q => ∃ p ys, xs = [.ref p] ∧ (SqL K H p ys ∨ SqT K H p ys) ∧ Q (.int ys.length) H
theorem call_len_seq_k (h : X.K = K := by rfl) : CallR X (.builtin "len") (rLen K) := h ▸ call_len_seq
def rListOf : List V → Hp → VK → Prop := fun xs H Q => ∃ p ys, xs = [.ref p] ∧ (SqL K H p ys ∨ SqT K H p ys) ∧ ∀ l, H l = none → Q (.ref l) (upd H l (.lst ys))
theorem call_list_of_k (h : X.K = K := by rfl) : CallR X (.type "list") (rListOf K) := h ▸ call_list_of
def rTupOf : List V → Hp → VK → Prop := fun xs H Q => ∃ p ys, xs = [.ref p] ∧ ((SqL K H p ys ∧ ∀ l, H l = none → Q (.ref l) (upd H l (.tup ys))) ∨ (SqT K H p ys ∧ Q (.ref p) H))
theorem call_tuple_of_k (h : X.K = K := by rfl) : CallR X (.type "tuple") (rTupOf K) := h ▸ call_tuple_of
theorem cr_sum_k (hc : X.calm = true) (h : X.K = K := by rfl) : CallR X (.builtin "sum") (rSum K) := h ▸ cr_sum hc
theorem cr_max_k (hc : X.calm = true) (h : X.K = K := by rfl) : CallR X (.builtin "max") (rMax K) := h ▸ cr_max hc
theorem cr_min_k (hc : X.calm = true) (h : X.K = K := by rfl) : CallR X (.builtin "min") (rMin K) := h ▸ cr_min hc
theorem cr_any_k (hc : X.calm = true) (h : X.K = K := by rfl) : CallR X (.builtin "any") (rAny K) := h ▸ cr_any hc
theorem cr_all_k (hc : X.calm = true) (h : X.K = K := by rfl) : CallR X (.builtin "all") (rAll K) := h ▸ cr_all hc
theorem cr_sorted_k (h : X.K = K := by rfl) : CallR X (.builtin "sorted") (rSorted K) := h ▸ cr_sorted
theorem mt_index_k (h : X.K = K := by rfl) : MtR X "list.index" (rIndex K) := h ▸ mt_index
theorem op_eqD_k (hu : X.A.units + 64 < cLine) (h : X.K = K := by rfl) : OpR X (compareOp .Eq) (rEqD K) := h ▸ op_eqD hu
theorem op_neD_k (hu : X.A.units + 64 < cLine) (h : X.K = K := by rfl) : OpR X (compareOp .NotEq) (rNeD K) := h ▸ op_neD hu
theorem call_isi_k (h : X.K = K := by rfl) : CallR X (.builtin "isinstance") (rIsi K) := h ▸ call_isi
theorem call_isiT_k (h : X.K = K := by rfl) : CallR X (.builtin "isinstance") (rIsiT K) := h ▸ call_isiT
theorem op_catT_k (h : X.K = K := by rfl) : OpR X (binaryOp .Add) (rCatT K) := h ▸ op_catT
theorem pi_list_k {tg l : Expr} {tl : TE} (hl : PE X l tl) (h : X.K = K := by rfl) : PI X tg l (iList K tl) := h ▸ pi_list hl
theorem pi_tup_k {tg l : Expr} {tl : TE} (hl : PE X l tl) (h : X.K = K := by rfl) : PI X tg l (iTup K tl) := h ▸ pi_tup hl
theorem pe_revL_k {e : Expr} {te : TE} {k : Nat} {p1 p2 p3 pos : Pos} (he : PE X e te) (h : X.K = K := by rfl) : PE X (.Subscript e (.Slice none none (some (.UnaryOp .USub (.Constant (.int 1) k p1) p2)) p3) pos) (tRevL K te) := h ▸ pe_revL he
def rJoin : V → List V → Hp → VK → Prop := fun x xs H Q => ∃ a p, ∃ ys : List Str, x = .str a ∧ xs = [.ref p] ∧ (SqL K H p (ys.map V.str) ∨ SqT K H p (ys.map V.str)) ∧ (ys.map (·.length)).sum + ys.length * a.length ≤ 16777216 ∧ Q (.str (Txt.join a ys)) H
theorem pe_join_k {o e : Expr} {to te : TE} {apos pos : Pos} (ho : PE X o to) (he : PE X e te) (h : X.K = K := by rfl) (hs : starEach [e] X.env = [(false, eval e X.env)] := by rfl) (hbase : attributeBase o "join" X.env (eval o X.env) = eval o X.env := by rfl) (hline : (apos.endLine == pos.line) = true := by rfl) :
    PE X (.Call (.Attribute o "join" apos) [e] [] pos) (tM1 (rJoin K) to te) := h ▸ pe_join ho he hs hbase hline
end
/-! ### heaps -/
/-- all that was tracked, but for what stands at l, is as it was -/
def But (l : Addr) (H H' : Hp) : Prop := ∀ b o, H b = some o → b ≠ l → H' b = some o
theorem But.refl (l : Addr) (H : Hp) : But l H H := fun _ _ h _ => h
theorem But.trans {l : Addr} {H H1 H2 : Hp} (a : But l H H1) (b : But l H1 H2) : But l H H2 := fun c o h n => b c o (a c o h n) n
theorem But.of {l : Addr} {H H1 : Hp} (a : Same H H1) : But l H H1 := fun c o h _ => a c o h
theorem But.upd {l : Addr} {H : Hp} {o : HO} : But l H (upd H l o) := fun b _ h n => by rw [upd_ne n]; exact h
theorem Same.upd {H : Hp} {l : Addr} {o : HO} (h : H l = none) : Same H (upd H l o) := fun b u e => by
  rw [upd_ne (ne_of_none e h)]
  exact e
theorem But.new {l : Addr} {H H1 : Hp} {p : Addr} {o : HO} (a : But l H H1) (h : H1 p = none) : But l H (L2.upd H1 p o) := a.trans (.of (Same.upd h))
theorem Same.new {H H1 : Hp} {p : Addr} {o : HO} (a : Same H H1) (h : H1 p = none) : Same H (L2.upd H1 p o) := a.trans (Same.upd h)
/-- the ends of an if -/
theorem itb {b : Bool} {A B : Prop} (h1 : b = true → A) (h2 : b = false → B) : if b = true then A else B := by
  cases b with
  | true => exact iteT (h1 rfl)
  | false => exact iteF (h2 rfl)
theorem itd {c : Prop} [Decidable c] {A B : Prop} (h1 : c → A) (h2 : ¬ c → B) : if decide c = true then A else B := itb (fun h => h1 (of_decide_eq_true h)) fun h => h2 (of_decide_eq_false h)
theorem itnd {c : Prop} [Decidable c] {A B : Prop} (h1 : ¬ c → A) (h2 : c → B) : if (!decide c) = true then A else B := itb (fun h => h1 (by simpa using h)) fun h => h2 (by simpa using h)
/-! ### readings, step by step -/
section
variable {σ : L2.St} {H : Hp} {D : Ends} {t1 t2 : TS} {te : TE} {i : Nat} {c : TT}
theorem s_seq (h : t1 { D with nx := t2 D } σ H) : tSeq t1 t2 D σ H := h
theorem s_set (h : te σ H fun v H' => D.nx (σ.set i (some v)) H') : tAsg te (gName i) D σ H := h
theorem s_ret (h : te σ H D.rt) : tRet te D σ H := h
theorem s_if (h : c σ H fun b H' => if b = true then t1 D σ H' else t2 D σ H') : tIfS c t1 t2 D σ H := h
theorem s_op {r : R2} {ta tb : TE} {Q : VK} (h : ta σ H fun x H1 => tb σ H1 fun y H2 => r x y H2 Q) : tOp r ta tb σ H Q := h
theorem s_nx (h : D.nx σ H) : tNext D σ H := h
end
end Dear

namespace Dear
open PySem PySem.Spec PyProof.Rows L2
/-! ### an exception that is caught, kept in a name, and asked behind the suite -/
/-- a kept exception at a: its class, its own dict -/
def ExK (cls : Value) (d : Option Addr) (a : Addr) : HO := .ext fun h => ∃ (oe : Obj) (vs : Array Value), h.get? a = some oe ∧ Zc cls d oe ∧ oe.data = .fields vs
theorem exK_ok {P : Program} {w : World} {H : Hp} {h : Heap} {a : Addr} {cls : Value} {d : Option Addr} {oe : Obj} {vs : Array Value} (e : h.get? a = some oe) (z : Zc cls d oe) (dt : oe.data = .fields vs) : ObjOk P w H h a (ExK cls d a) :=
  ⟨⟨oe, vs, e, z, dt⟩, ⟨oe, e⟩, fun _ _ ⟨o, v, q, r⟩ k => ⟨o, v, k o q, r⟩⟩
section
variable {X : Cx} {pins : List (Addr × Obj)} {σ : L2.St} {H : Hp} {s : Shared}
/-- an object that stands there untracked, new since the entry, becomes tracked -/
theorem track (I : Inv X pins σ H s) {a : Addr} {o : HO} {oe : Obj} (he : s.heap.get? a = some oe) (na : H a = none) (n0 : X.s_0.heap.get? a = none) (nL : a ≠ X.env.locals) (nC : ∀ v, oe.data ≠ .cell v)
    (nP : ∀ p ∈ X.pn ++ pins, p.1 ≠ a) (new : ObjOk X.prog X.w (upd H a o) s.heap a o) : Inv X pins σ (upd H a o) s where
  ok := I.ok
  os := I.os
  bare := I.bare
  base := {
    keep := I.base.keep
    slot := I.base.slot
    free := fun b u q n hx => by
      rw [upd_ne fun z => by rw [z, n0] at q; cases q]
      exact I.base.free b u q n hx
    there := I.base.there
    tups := fun b xs q => by
      have z := I.base.tups b xs q
      rw [upd_ne (ne_of_none z na)]
      exact z
    frzs := fun b u v q => by
      have z := I.base.frzs b u v q
      rw [upd_ne (ne_of_none z na)]
      exact z
    tbls := fun b ps q => by
      obtain ⟨m, z⟩ := I.base.tbls b ps q
      exact ⟨m, by rw [upd_ne (ne_of_none z na)]; exact z⟩ }
  loc := I.loc
  cell := I.cell
  free := by rw [upd_ne (Ne.symm nL)]; exact I.free
  freeC := fun x c e => by
    have ne : c ≠ a := fun z => by
      obtain ⟨v, ob, q, dq⟩ := I.cell x c e
      rw [z, he] at q
      cases q
      exact nC v dq
    rw [upd_ne ne]
    exact I.freeC x c e
  pin := fun p hp => by
    obtain ⟨p1, p2, p3⟩ := I.pin p hp
    exact ⟨p1, by rw [upd_ne (nP p hp)]; exact p2, p3⟩
  hok := fun b u e => by
    by_cases hb : b = a
    · subst hb
      rw [upd_same] at e
      cases e
      exact new
    · rw [upd_ne hb] at e
      exact (I.hok b u e).stay (fun _ _ _ q => q) (fun c q => by rw [upd_ne (ne_of_none q na)]; exact q) fun c xs q => by rw [upd_ne (ne_of_none q na)]; exact q
  len := I.len
end
/-- what «except x as n: y = n» wishes of an exception of the body: n's slot is i, y's is j; behind it the exception stands tracked -/
def wKept (K : PySem.W.Frag) (c : Value) (i j : Nat) (Wout : WX) (D : Ends) : WX := fun cls d σ H =>
  ∃ b, PySem.W.exmOne K cls c = some b ∧ (b = true → ∀ a, H a = none → D.nx (((σ.set i (some (.ref a))).set j (some (.ref a))).set i none) (upd H a (ExK cls d a))) ∧ (b = false → Wout cls d σ H)
section
variable {X : Cx} {x n y : Str} {c : Value} {i j : Nat} {body : List Stmt} {np pos pos2 p3 p4 p5 : Pos} {tb : WX → TS} {Wout : WX}
theorem ps_try_kept (hs : X.stack = X.env :: X.outer) (hf : X.env.frame = some X.env.locals) (hex : X.ex = []) (hN : X.N.Nodup) (hi : X.N[i]? = some n) (hj : X.N[j]? = some y) (hij : i ≠ j) (hln : X.env.kindOf n = some .local) (hly : X.env.kindOf y = some .local) (hc : Names X x c) (tk : Takes X Wout)
    (hb : ∀ (W : WX) (pn : List (Addr × Obj)) (xe : Value → Shared → Prop), Takes (X.tr pn xe) W → PassesOwn (model X.prog X.w) X.A X.env xe → PSs (X.tr pn xe) body (tb W))
    (hdn : (n == ("__debug__" : Str)) = false := by decide) (hcd : (n == ("__classdict__" : Str)) = false := by decide) :
    PS X (.Try body [.ExceptHandler (some (.Name x np)) (some n) [.Assign [.Name y p3] (.Name n p4) p5] pos2] [] [] pos) (fun D σ H => tb (wKept X.K c i j Wout D) D σ H) := by
  refine ⟨fun pins s σ H D I h => ?_⟩
  have ok := I.ok
  have frames : X.A.frames = some (X.env :: X.outer) := by rw [ok.frames, hs]
  refine wpAny_Try_except (wpAny_mono ((hb (wKept X.K c i j Wout D) (X.pn ++ pins) _ (fun u s1 air => ?_) PassesOwn.looking).run [] s σ H D (I.toTry _) h) (fun f s1 done => ?_) fun _ _ z => z)
  · obtain ⟨a, B, sI, pins', σ1, H1, cls, d, rfl, J1, nb, up, sky, na, os, ag, b, hm, yes, no⟩ := air
    have J : Inv X pins σ1 H1 sI := J1.ofTry ok
    rw [show X.stack = X.env :: X.outer from hs] at sky
    refine Sky.land Zc.steady frames hf sky fun h3 fl3 up3 => ?_
    have J3 : Inv X pins σ1 H1 { s1 with heap := h3 } := J.landed nb fl3.1 (up.trans up3) os ag
    obtain ⟨oe3, vs3, he3, hz3, hd3⟩ := fl3.there
    have nfr : a ∉ frs (X.env :: X.outer) := fun hm => by
      obtain ⟨_, o', e', hnf⟩ := fl3.2.2.1.mem hm
      rw [he3] at e'
      cases e'
      exact hnf _ hd3
    have nL : a ≠ X.env.locals := fun z => nfr (List.mem_filterMap.mpr ⟨X.env, List.mem_cons_self, by rw [hf, z]⟩)
    have nF : a ∉ X.fs := fun hm => by
      obtain ⟨e, he, q⟩ := List.mem_filterMap.mp hm
      exact nfr (List.mem_filterMap.mpr ⟨e, List.mem_cons_of_mem _ he, q⟩)
    -- it is new: neither there at the entry nor pinned
    have gone : ∀ o, sI.heap.get? a ≠ some o := fun o q => by
      have z := nb a o q (by rw [hs]; exact nfr)
      rw [fl3.2.1] at z
      cases z
    have n0 : X.s_0.heap.get? a = none := by
      cases q : X.s_0.heap.get? a with
      | none => rfl
      | some o =>
        obtain ⟨o', q'⟩ := J.base.there a o q (by rw [hex]; simp)
        exact absurd q' (gone o')
    have nP : ∀ p ∈ X.pn ++ pins, p.1 ≠ a := fun p hp z => gone p.2 (z ▸ (J.pin p hp).1)
    have S3 := J3.suite he3 hd3 na nL nF
    refine wpAny_handleBy_cons (codeAny_handlers_test ?_) (by intro q; cases q)
    have LT : PySem.W.Looks (model X.prog X.w) h3 (typeOf (.ref a)) cls := fun _ _ _ _ k q => wpAny_typeOf_ref (k _ _ he3) (by rw [hz3.1]; exact q)
    have LM := PySem.W.exm_one (M := model X.prog X.w) J3.kIn LT hm
    have named : ∀ {Q : Value → Shared → Prop} {E : Value → Shared → Prop}, Q c { s1 with heap := h3 } → wpAny (model X.prog X.w) (X.A.mark (some (.ref a))) (eval (.Name x np) X.env) Q E { s1 with heap := h3 } := fun {Q E} q => by
      obtain ⟨hg, hdbg, hm | ⟨hm, hv, hnn⟩⟩ := hc
      · exact ld_glob (X := X.suite a ((a, oe3) :: (X.pn ++ pins))) S3 hg hm q hdbg
      · exact ld_blt (X := X.suite a ((a, oe3) :: (X.pn ++ pins))) S3 hg hm hv q hnn hdbg
    refine named (LM.here ?_)
    cases b with
    | true =>
      refine codeAny_handlers_suite_as (HandSPX.lands_againZ fl3 fun h4 fl4 up4 => ?_)
      have J4 : Inv X pins σ1 H1 { s1 with heap := h4 } := J.landed nb fl4.1 ((up.trans up3).trans up4) os ag
      obtain ⟨oe4, vs4, he4, hz4, hd4⟩ := fl4.there
      refine store_ok (X := X.suite a ((a, oe4) :: (X.pn ++ pins))) (v := .ref a) (J4.suite he4 hd4 na nL nF) hN hi (.inl hln) rfl (fun s5 S5 => ?_) (.inr hln)
      have suite : PSs (X.suite a ((a, oe4) :: (X.pn ++ pins))) [.Assign [.Name y p3] (.Name n p4) p5] (tAsg (tVar i) (gName j)) := pss_one (ps_set hN hj (.inl hly) (pe_var hi (.inl hln) hdn hcd) (hf := .inr hly))
      have len1 : i < σ1.length := by
        rw [J.len]
        exact (List.getElem?_eq_some_iff.mp hi).1
      refine wpAny_mono (suite.run [] s5 _ H1 { nx := fun σ' H' => σ' = (σ1.set i (some (.ref a))).set j (some (.ref a)) ∧ H' = H1, rt := fun _ _ => False } S5 ⟨.ref a, by rw [List.getElem?_set_self len1], rfl, rfl⟩) (fun f s6 done => ?_) fun _ _ z => z.elim
      cases f with
      | next =>
        obtain ⟨σ6, H6, S6, rfl, rfl⟩ := done
        have he6 := (S6.pin (a, oe4) (List.mem_append_left _ List.mem_cons_self)).1
        refine gone_ok (track (S6.unsuite ok) (o := ExK cls d a) he6 na n0 nL (fun v q => by rw [hd4] at q; cases q) nP (exK_ok he6 hz4 hd4)) hN hi hln fun s7 J7 => ⟨_, _, J7, yes rfl a na⟩
      | brk =>
        obtain ⟨_, _, _, z⟩ := done
        exact z.elim
      | cont =>
        obtain ⟨_, _, _, z⟩ := done
        exact z.elim
      | ret u =>
        obtain ⟨_, _, _, _, _, z⟩ := done
        exact z.elim
    | false =>
      show wpAny _ X.A (handleBy (.ref a) X.env []) _ _ _
      refine wpAny_handleBy_nil ?_
      obtain ⟨_, _, _, oe, vs, T, _, _, he, _, hd, h1, _⟩ := id fl3
      unfold PySem.passOn
      refine wpAny_bind (wpAny_field he hd h1 ?_)
      rw [if_neg (show ¬ ((Value.ref T == Value.none) = true) from by simp)]
      have fin : wpAny (model X.prog X.w) X.A (setFlight (.ref a) X.env.frame) (fun _ s4 => wpAny (model X.prog X.w) X.A (throw (.ref a) : Sem Flow) (SP X pins D) X.xe s4) X.xe { s1 with heap := h3 } := by
        rw [hf]
        exact HandSPX.setFlight_upZ fl3 fun h4 hh4 up4 => wpAny_throw (tk _ _ ⟨a, B, sI, pins, σ1, H1, cls, d, rfl, J, nb, (up.trans up3).trans up4, .inr (.inr (by rw [hs]; exact hh4)), na, os, ag, no rfl⟩)
      first
        | exact wpAny_bind (wpAny_pure (wpAny_bind fin))
        | exact wpAny_bind fin
  · cases f with
    | next =>
      obtain ⟨σ', H', J', q⟩ := done
      exact wpAny_execs_nil ⟨σ', H', J'.ofTry ok, q⟩
    | brk =>
      obtain ⟨σ', H', J', q⟩ := done
      exact ⟨σ', H', J'.ofTry ok, q⟩
    | cont =>
      obtain ⟨σ', H', J', q⟩ := done
      exact ⟨σ', H', J'.ofTry ok, q⟩
    | ret u =>
      obtain ⟨v, σ', H', J', r, q⟩ := done
      exact ⟨v, σ', H', J'.ofTry ok, r, q⟩
end
/-! ### isinstance of a kept exception -/
/-- the object as the library's rules want it -/
theorem instAt_kept {h : Heap} {a D : Addr} {oe : Obj} {vs : Array Value} (e : h.get? a = some oe) (z : Zc (.ref D) none oe) (d : oe.data = .fields vs) : PySem.W.InstAt h a oe D none := by
  obtain ⟨oc, od, oda, osl⟩ := oe
  obtain ⟨h1, h2⟩ := z
  dsimp only at h1 h2 d
  subst h1 h2 d
  exact ⟨e, rfl, rfl, trivial⟩
def rIsX (K : PySem.W.Frag) : List V → Hp → VK → Prop := fun xs H Q => ∃ (a D : Addr) (c : V) (u : Value) (b : Bool), xs = [.ref a, c] ∧ H a = some (ExK (.ref D) none a) ∧ ExcC K D ∧ ClsV c u ∧ PySem.W.kitOne K (.ref D) u = some b ∧ Q (.bl b) H
def rIsXT (K : PySem.W.Frag) : List V → Hp → VK → Prop := fun xs H Q => ∃ (a D tp : Addr) (cs : List V) (us : List Value) (b : Bool), xs = [.ref a, .ref tp] ∧ H a = some (ExK (.ref D) none a) ∧ ExcC K D ∧ H tp = some (.tup cs) ∧ Paired ClsV cs us ∧ PySem.W.kitAny K (.ref D) us = some b ∧ Q (.bl b) H
section
variable {X : Cx} (K : PySem.W.Frag)
theorem call_isX_k (hk : X.K = K := by rfl) : CallR X (.builtin "isinstance") (rIsX K) := by
  subst hk
  intro pins s σ H xs us Q I r h
  obtain ⟨a, D, c, u, b, rfl, ha, C, k, e, q⟩ := h
  obtain ⟨u1, u2, rfl, r1, r2⟩ := vals2 r
  have e2 := k.eq r2
  subst e2
  cases r1
  obtain ⟨⟨oe, vs, he, hz, hd⟩, _⟩ := I.hok a _ ha
  exact PySem.W.kia_one (PySem.W.handS_kitx_exc C.hg C.hk C.hs C.hd C.ha C.hn C.ht C.hm) I.kIn (instAt_kept he hz hd) e (fun z => nomatch z) fun tk => ⟨.bl b, H, I.tok tk, rfl, q⟩
theorem call_isXT_k (hk : X.K = K := by rfl) : CallR X (.builtin "isinstance") (rIsXT K) := by
  subst hk
  intro pins s σ H xs us Q I r h
  obtain ⟨a, D, tp, cs, ws, b, rfl, ha, C, hT, k, e, q⟩ := h
  obtain ⟨u1, u2, rfl, r1, r2⟩ := vals2 r
  cases r1
  cases (show u2 = Value.ref tp from r2)
  obtain ⟨⟨oe, vs, he, hz, hd⟩, _⟩ := I.hok a _ ha
  obtain ⟨_, its, rv, o, h1, h2, n, h3⟩ := (show ObjOk X.prog X.w H s.heap tp (.tup cs) from I.hok tp _ hT)
  have e3 := ClsV.all k rv
  subst e3
  obtain ⟨oc, od, dt, sl⟩ := o
  simp only at h2 h3
  subst h2 h3
  exact PySem.W.kia_tup (PySem.W.handS_kitx_exc C.hg C.hk C.hs C.hd C.ha C.hn C.ht C.hm) I.kIn (instAt_kept he hz hd) h1 e (fun z => nomatch z) fun tk => ⟨.bl b, H, I.tok tk, rfl, q⟩
end
/-! ### facts of own exception classes, calls of defs that raise, defs with defaults -/
/-- an own exception class over ValueError, without an own __init__ -/
structure ExOwn (K : PySem.W.Frag) (mg : Str → Option Value) (x : Str) (C : Addr) : Prop where
  g : mg x = some (.ref C)
  x : PySem.W.excIn K C [.type "ValueError", .type "Exception", .type "BaseException", .type "object"] "ValueError.__new__" = true
  k : PySem.W.keepIn K (.ref C) = true
  b : PySem.W.subIn K (.ref C) (.type "BaseException") = some true
  t : PySem.W.typeIn K (.ref C) = some (.type "type")
  c : ExcC K C
theorem kit_ref {K : PySem.W.Frag} {A C : Addr} {b : Bool} (n : (Value.ref A == Value.ref C) = false) (i : PySem.W.isClsIn K C = true) (t : PySem.W.typeIn K (.ref C) = some (.type "type")) (q : PySem.W.subIn K (.ref A) (.ref C) = some b) : PySem.W.kitOne K (.ref A) (.ref C) = some b := by
  unfold PySem.W.kitOne
  rw [if_neg (by rw [n]; exact Bool.false_ne_true)]
  have i' : (PySem.W.clsIn K C).isSome = true := i
  show (if ((PySem.W.clsIn K C).isSome && PySem.W.typeIn K (.ref C) == some (.type "type")) = true then PySem.W.subIn K (.ref A) (.ref C) else none) = some b
  rw [i', t, if_pos (by simp)]
  exact q
theorem kit_self {K : PySem.W.Frag} {C : Addr} : PySem.W.kitOne K (.ref C) (.ref C) = some true := by
  unfold PySem.W.kitOne
  rw [if_pos (by simp)]
theorem kit_val {K : PySem.W.Frag} {A : Addr} (q : PySem.W.subIn K (.ref A) (.type "ValueError") = some true) : PySem.W.kitOne K (.ref A) (.type "ValueError") = some true := by
  unfold PySem.W.kitOne
  rw [if_neg (by simp)]
  have m : PySem.W.kitMeta "ValueError" = true := by decide +kernel
  show (if PySem.W.kitMeta "ValueError" = true then PySem.W.subIn K (.ref A) (.type "ValueError") else none) = some true
  rw [if_pos m]
  exact q
theorem exm_ref2 {K : PySem.W.Frag} {A C : Addr} {b : Bool} (h1 : PySem.W.subIn K (.ref C) (.type "BaseException") = some true) (i : PySem.W.isClsIn K C = true) (t : PySem.W.typeIn K (.ref C) = some (.type "type")) (q : PySem.W.subIn K (.ref A) (.ref C) = some b) : PySem.W.exmOne K (.ref A) (.ref C) = some b := by
  have i' : (PySem.W.clsIn K C).isSome = true := i
  show (if (PySem.W.subIn K (.ref C) (.type "BaseException") == some true) = true then (if ((PySem.W.clsIn K C).isSome && PySem.W.typeIn K (.ref C) == some (.type "type")) = true then PySem.W.subIn K (.ref A) (.ref C) else none) else none) = some b
  rw [h1, i', t, if_pos (by simp), if_pos (by simp)]
  exact q
/-- none of some classes -/
theorem kit_none {K : PySem.W.Frag} {t : Value} : ∀ {us : List Value}, (∀ u ∈ us, PySem.W.kitOne K t u = some false) → PySem.W.kitAny K t us = some false
  | [], _ => rfl
  | u :: us, h => kitAny_cons (h u List.mem_cons_self) (fun _ => kit_none fun x hx => h x (List.mem_cons_of_mem _ hx)) (fun z => by cases z)
theorem cls_all : ∀ {cs : List Addr}, Paired ClsV (cs.map V.ref) (cs.map Value.ref)
  | [] => .nil
  | c :: _ => .cons (.own c) cls_all
/-- a def with defaults dvs, and with its promise -/
def DfD (K : PySem.W.Frag) (mg : Str → Option Value) (x : Str) (st : Stmt) (ps : List Str) (dvs : List V) : Prop :=
  ∃ (f : Addr) (fd : FuncData), mg x = some (.ref f) ∧ FunD K x x (defArgs st) (defBody st) (defScope st) dvs [] f fd ∧ (∃ ds, Vals dvs ds ∧ Binds K fd ps ds) ∧ Binds K fd ps []
def OkD (P : Program) (w : World) (K : PySem.W.Frag) (mg : Str → Option Value) (base : Heap) (CX : CXT) (k : Nat) (x : Str) (ps : List Str) (dvs : List V) (sp : Sp) : Prop :=
  ∃ (f : Addr) (fd : FuncData), mg x = some (.ref f) ∧ PySem.W.keepIn K (.ref f) = true ∧ (∃ ds, Vals dvs ds ∧ Binds K fd ps ds) ∧ Binds K fd ps [] ∧ FnOk P w K mg base CX k f fd ps sp
theorem dfD_mk {K : PySem.W.Frag} {mg : Str → Option Value} {x : Str} {st : Stmt} {ps : List Str} {dvs : List V} {f T : Addr} {oc oC kV dc pm cd ct : Value} {od oD an : Option Addr} {sl sD : Array (Option Value)} {its : List Value} {n : Nat}
    (hm : mg x = some (.ref f)) (l : K.lookup f = some ⟨oc, od, .func (PySem.W.fnOf x x (defArgs st) (defBody st) (defScope st) (.ref T) kV dc pm an cd ct), sl⟩) (c : PySem.W.codeIn K cd x = true) (k : PySem.W.keepIn K (.ref f) = true)
    (d : K.lookup T = some ⟨oC, oD, .seq its.toArray n, sD⟩) (r : Vals dvs its) (hd : dvs ≠ []) {m : Nat} (hn : m + dvs.length = ps.length) (hz : dvs.drop dvs.length = [])
    (h1 : ∀ (T : Addr) (kV doc pm : Value) (an : Option Addr) (cdv ct : Value) (us its : List Value), us.length = m → its.length = dvs.length →
      ∃ k, bindArgs (PySem.W.fnOf x x (defArgs st) (defBody st) (defScope st) (.ref T) kV doc pm an cdv ct) ⟨us, []⟩ = seqItems? (.ref T) >>= k ∧ k (some its.toArray) = pure (ps.zip (us ++ its.drop 0)))
    (h2 : ∀ (T : Addr) (kV doc pm : Value) (an : Option Addr) (cdv ct : Value) (us its : List Value), us.length = ps.length → its.length = dvs.length →
      ∃ k, bindArgs (PySem.W.fnOf x x (defArgs st) (defBody st) (defScope st) (.ref T) kV doc pm an cdv ct) ⟨us, []⟩ = seqItems? (.ref T) >>= k ∧ k (some its.toArray) = pure (ps.zip (us ++ its.drop dvs.length))) : DfD K mg x st ps dvs := by
  have F : FunD K x x (defArgs st) (defBody st) (defScope st) dvs [] f (PySem.W.fnOf x x (defArgs st) (defBody st) (defScope st) (.ref T) kV dc pm an cd ct) :=
    ⟨⟨oc, od, .ref T, kV, dc, pm, an, cd, ct, sl, rfl, l, c, .inr ⟨hd, T, _, its, n, rfl, d, rfl, r⟩, .inl rfl⟩, k⟩
  refine ⟨f, _, hm, F, F.binds1 m 0 hd (by omega) h1, ?_⟩
  obtain ⟨ds, v, b⟩ := F.binds1 ps.length dvs.length hd (by omega) h2
  rw [hz] at v
  cases v
  exact b
section
variable {P : Program} {w : World} {K : PySem.W.Frag} {mg : Str → Option Value} {base : Heap}
theorem DfD.ok {CX : CXT} {x : Str} {st : Stmt} {N ps : List Str} {dvs : List V} {k : Nat} {sp : Sp} (D : DfD K mg x st ps dvs) (S : FnScope N ps (defScope st)) (len : ∀ vs H Q E, sp vs H Q E → vs.length = ps.length)
    (hbody : ∀ (f : Addr) (cdv : Value) (A : Around) (outer : List Env) (s : Shared) (H : Hp) (vs : List V) (Q : VK) (E : XK), Room k (A.deeper (envOfC x (defScope st) s.heap.objs.size f cdv)) → sp vs H Q E →
      ∃ t, PSs (cxOf CX P w K mg base N x (defScope st) f cdv A outer s H E) (defBody st) t ∧ t { nx := fun _ H' => Q .non H', rt := Q } (start N vs) H) : OkD P w K mg base CX (k + 1) x ps dvs sp := by
  obtain ⟨f, fd, hm, F, hb, hb0⟩ := D
  exact ⟨f, fd, hm, F.kp, hb, hb0, F.ok S len (hbody f)⟩
/-- a def that may raise -/
theorem Df.okX {x : Str} {st : Stmt} {N ps : List Str} {k : Nat} {sp : Sp} (D : Df K mg x st ps) (S : FnScope N ps (defScope st)) (len : ∀ vs H Q E, sp vs H Q E → vs.length = ps.length)
    (hbody : ∀ (f : Addr) (cdv : Value) (A : Around) (outer : List Env) (s : Shared) (H : Hp) (vs : List V) (Q : VK) (E : XK), Room k (A.deeper (envOfC x (defScope st) s.heap.objs.size f cdv)) → sp vs H Q E →
      ∃ t, PSs (cxOf (L2.CX P w) P w K mg base N x (defScope st) f cdv A outer s H E) (defBody st) t ∧ t { nx := fun _ H' => Q .non H', rt := Q } (start N vs) H) : OkF P w K mg base (L2.CX P w) (k + 1) x ps sp := by
  obtain ⟨f, fd, hm, F, hb⟩ := D
  exact ⟨f, fd, hm, F.kp, hb, F.okX S len (hbody f)⟩
end
section
variable {X : Cx} {k k' : Nat} {x : Str} {ps : List Str} {sp : Sp} {e : Expr} {es : List Expr} {t : TA} {p pos : Pos} {W : WX} {dvs : List V}
/-- f(e, ..) where f may raise -/
theorem pe_cx (O : OkF X.prog X.w X.K X.mg X.base (L2.CX X.prog X.w) k x ps sp) (hr : Room k' X.A) (tk : Takes X W) (ha : PA X (e :: es) t) (hk : k ≤ k' := by decide) (hg : Gl X x := by rfl)
    (hdb : (x == ("__debug__" : Str)) = false := by decide) (he : starEach (e :: es) X.env = (false, eval e X.env) :: starEach es X.env := by rfl) (hpl : (backTo pos (starEach es X.env)).any (·.1) = false := by rfl) :
    PE X (.Call (.Name x p) (e :: es) [] pos) (tCallS sp (WE W) t) := by
  obtain ⟨f, fd, hm, hkp, hb, F⟩ := O
  exact pe_callS F (hr.mono hk) hg hm hkp hb (fun σ => passAt tk σ) ha hdb he hpl
/-- the same, f with defaults, all arguments written -/
theorem pe_cxn (O : OkD X.prog X.w X.K X.mg X.base (L2.CX X.prog X.w) k x ps dvs sp) (hr : Room k' X.A) (tk : Takes X W) (ha : PA X (e :: es) t) (hk : k ≤ k' := by decide) (hg : Gl X x := by rfl)
    (hdb : (x == ("__debug__" : Str)) = false := by decide) (he : starEach (e :: es) X.env = (false, eval e X.env) :: starEach es X.env := by rfl) (hpl : (backTo pos (starEach es X.env)).any (·.1) = false := by rfl) :
    PE X (.Call (.Name x p) (e :: es) [] pos) (tCallS sp (WE W) t) := by
  obtain ⟨f, fd, hm, hkp, _, hb, F⟩ := O
  exact pe_callS F (hr.mono hk) hg hm hkp hb (fun σ => passAt tk σ) ha hdb he hpl
/-- the same, the defaults fill up -/
def tCallD (sp : Sp) (dvs : List V) (E : L2.St → XK) (t : TA) : TE := fun σ H Q => t σ H fun vs H1 => sp (vs ++ dvs) H1 Q (E σ)
theorem pe_cxd (O : OkD X.prog X.w X.K X.mg X.base (L2.CX X.prog X.w) k x ps dvs sp) (hr : Room k' X.A) (tk : Takes X W) (ha : PA X (e :: es) t) (hk : k ≤ k' := by decide) (hg : Gl X x := by rfl)
    (hdb : (x == ("__debug__" : Str)) = false := by decide) (he : starEach (e :: es) X.env = (false, eval e X.env) :: starEach es X.env := by rfl) (hpl : (backTo pos (starEach es X.env)).any (·.1) = false := by rfl) :
    PE X (.Call (.Name x p) (e :: es) [] pos) (tCallD sp dvs (WE W) t) := by
  obtain ⟨f, fd, hm, hkp, ⟨ds, hv, hb⟩, _, F⟩ := O
  refine ⟨fun pins s σ H Q I h => ?_⟩
  refine wpAny_Call_Name_kw (ld_glob I hg hm ?_ hdb)
  refine PySem.W.callWith_K (h₀ := X.base) I.ok.mod.kin hkp (thn (ha.run pos pins s σ H _ I h) fun us s1 ⟨vs, H1, I1, r, q⟩ => ⟨I1.kIn, ?_⟩) he hpl
  have hl : (vs ++ dvs).length = ps.length := F.len _ _ _ _ q
  have b := hb s1 us I1.kIn (by rw [← hl, List.length_append, List.length_append, r.length, hv.length])
  refine wpAny_call (codeAny_mono (F.run X.A X.stack s1 H1 ⟨us, []⟩ (us ++ ds) (vs ++ dvs) Q (WE W σ) (hr.mono hk) I1.env0 b (r.append hv) q) fun rr s2 hq => ?_)
  cases rr with
  | error e => exact passAt tk σ pins H1 s1 e s2 I1 hq
  | ok fl =>
    cases fl with
    | ret u => exact I1.after hq
    | next => exact False.elim hq
    | brk => exact False.elim hq
    | cont => exact False.elim hq
end
end Dear

namespace Dear
open PySem PySem.Spec PyProof.Rows L2
/-! ### data, and how the heap bears them -/
inductive D where
  | non | bl (b : Bool) | int (i : Int) | str (z : Str) | lst (ds : List D) | tup (ds : List D) | dct
def kind : D → String
  | .non => "NoneType" | .bl _ => "bool" | .int _ => "int" | .str _ => "str" | .lst _ => "list" | .tup _ => "tuple" | .dct => "dict"
mutual
inductive Dt (H : Hp) : V → D → Prop
  | non : Dt H .non .non
  | bl (b : Bool) : Dt H (.bl b) (.bl b)
  | int (i : Int) : Dt H (.int i) (.int i)
  | str (z : Str) : Dt H (.str z) (.str z)
  | lst {a : Addr} {xs : List V} {ds : List D} : H a = some (.lst xs) → DtAll H xs ds → Dt H (.ref a) (.lst ds)
  | tup {a : Addr} {xs : List V} {ds : List D} : H a = some (.tup xs) → DtAll H xs ds → Dt H (.ref a) (.tup ds)
  | dct {a : Addr} {kvs : List (Key × V)} : H a = some (.dK kvs) → Dt H (.ref a) .dct
inductive DtAll (H : Hp) : List V → List D → Prop
  | nil : DtAll H [] []
  | cons {v : V} {vs : List V} {d : D} {ds : List D} : Dt H v d → DtAll H vs ds → DtAll H (v :: vs) (d :: ds)
end
mutual
theorem Dt.same {H H' : Hp} (s : Same H H') : ∀ {v : V} {d : D}, Dt H v d → Dt H' v d
  | _, _, .non => .non
  | _, _, .bl b => .bl b
  | _, _, .int i => .int i
  | _, _, .str z => .str z
  | _, _, .lst h a => .lst (s _ _ h) (DtAll.same s a)
  | _, _, .tup h a => .tup (s _ _ h) (DtAll.same s a)
  | _, _, .dct h => .dct (s _ _ h)
theorem DtAll.same {H H' : Hp} (s : Same H H') : ∀ {vs : List V} {ds : List D}, DtAll H vs ds → DtAll H' vs ds
  | _, _, .nil => .nil
  | _, _, .cons a b => .cons (Dt.same s a) (DtAll.same s b)
end
theorem DtAll.length {H : Hp} : ∀ {vs : List V} {ds : List D}, DtAll H vs ds → vs.length = ds.length
  | _, _, .nil => rfl
  | _, _, .cons _ b => by rw [List.length_cons, List.length_cons, DtAll.length b]
theorem DtAll.get {H : Hp} : ∀ {vs : List V} {ds : List D} {i : Nat} {v : V}, DtAll H vs ds → vs[i]? = some v → ∃ d, ds[i]? = some d ∧ Dt H v d
  | _, _, _, _, .nil, e => by simp at e
  | _, _, 0, _, .cons a _, e => by
    simp at e
    subst e
    exact ⟨_, rfl, a⟩
  | _, _, i + 1, v, .cons _ b, e => by
    obtain ⟨d, h1, h2⟩ := DtAll.get (i := i) (v := v) b (by simpa using e)
    exact ⟨d, by simpa using h1, h2⟩
theorem DtAll.app {H : Hp} : ∀ {vs us : List V} {ds es : List D}, DtAll H vs ds → DtAll H us es → DtAll H (vs ++ us) (ds ++ es)
  | _, _, _, _, .nil, s => s
  | _, _, _, _, .cons a b, s => .cons a (DtAll.app b s)
theorem DtAll.map {α : Type} {H : Hp} {f : α → V} {g : α → D} (h : ∀ a, Dt H (f a) (g a)) : ∀ l : List α, DtAll H (l.map f) (l.map g)
  | [] => .nil
  | a :: l => .cons (h a) (DtAll.map h l)
theorem Dt.ty {K : PySem.W.Frag} {H : Hp} {v : V} {d : D} (h : Dt H v d) : TyX K H v (.type (kind d)) := by
  cases h with
  | non => exact .base .non
  | bl b => exact .base (.bl b)
  | int i => exact .base (.int i)
  | str z => exact .base (.str z)
  | lst h _ => exact .base (.lst h)
  | tup h _ => exact .base (.tup h)
  | dct h => exact .base (.dK h)
/-! ### a heap without one object -/
def Off (l : Addr) (H : Hp) : Hp := fun b => if b = l then none else H b
theorem Off.sub (l : Addr) (H : Hp) : Same (Off l H) H := fun b o e => by
  unfold Off at e
  by_cases h : b = l
  · rw [if_pos h] at e
    cases e
  · rw [if_neg h] at e
    exact e
theorem off_ne {l b : Addr} {H : Hp} (h : b ≠ l) : Off l H b = H b := if_neg h
theorem But.off {l : Addr} {H H' : Hp} (a : But l H H') : Same (Off l H) (Off l H') := fun b o e => by
  by_cases h : b = l
  · have z := (if_pos h).symm.trans e
    cases z
  · rw [off_ne h] at e ⊢
    exact a b o e h
theorem sOff {l : Addr} {H H' : Hp} (a : Same H H') : Same (Off l H) (Off l H') := (But.of a).off
theorem Dt.on {l : Addr} {H : Hp} {v : V} {d : D} (h : Dt (Off l H) v d) : Dt H v d := h.same (Off.sub l H)
/-! ### what a display makes -/
def Mk (l : Addr) (σ : L2.St) (t : TE) (H : Hp) (d : D) : Prop := ∀ H1, Same H H1 → ∀ Q : VK, (∀ v H2, Same H1 H2 → Dt (Off l H2) v d → Q v H2) → t σ H1 Q
def MkA (l : Addr) (σ : L2.St) (t : TA) (H : Hp) (ds : List D) : Prop := ∀ H1, Same H H1 → ∀ Q : List V → Hp → Prop, (∀ vs H2, Same H1 H2 → DtAll (Off l H2) vs ds → Q vs H2) → t σ H1 Q
section
variable {l : Addr} {σ : L2.St} {H : Hp}
theorem mk_c {v : V} {d : D} (h : Dt (Off l H) v d) : Mk l σ (tC v) H d := fun H1 s _ q => q v H1 (Same.refl _) (h.same (sOff s))
theorem mk_var {i : Nat} {v : V} {d : D} (e : σ[i]? = some (some v)) (h : Dt (Off l H) v d) : Mk l σ (tVar i) H d := fun H1 s _ q => ⟨v, e, q v H1 (Same.refl _) (h.same (sOff s))⟩
theorem mka_nil : MkA l σ tNil H [] := fun H1 _ _ q => q [] H1 (Same.refl _) .nil
theorem mka_cons {t : TE} {u : TA} {d : D} {ds : List D} (h1 : Mk l σ t H d) (h2 : MkA l σ u H ds) : MkA l σ (tCons t u) H (d :: ds) := fun H1 s Q q => by
  refine h1 H1 s _ fun v H2 s2 d2 => ?_
  refine h2 H2 (s.trans s2) _ fun vs H3 s3 d3 => ?_
  exact q (v :: vs) H3 (s2.trans s3) (.cons (d2.same (sOff s3)) d3)
theorem sz_lit {n : Nat} (h : n ≤ 1000) : n ≤ sizeLine := Nat.le_of_lt (small1000 h)
theorem mk_tup {u : TA} {ds : List D} (h : MkA l σ u H ds) {o : HO} (hl : H l = some o) (hz : Nat.ble ds.length 1000 = true := by rfl) : Mk l σ (tTup u) H (.tup ds) := fun H1 s Q q => by
  refine h H1 s _ fun vs H2 s2 d2 => ?_
  refine ⟨sz_lit (by rw [d2.length]; exact Nat.le_of_ble_eq_true hz), fun p hp => ?_⟩
  have ne : p ≠ l := fun e => by
    subst e
    rw [s2 _ _ (s _ _ hl)] at hp
    cases hp
  exact q (.ref p) _ (s2.trans (Same.upd hp)) (.tup (by rw [off_ne ne]; exact upd_same) (d2.same (sOff (Same.upd hp))))
theorem mk_lst {u : TA} {ds : List D} (h : MkA l σ u H ds) {o : HO} (hl : H l = some o) (hz : Nat.ble ds.length 1000 = true := by rfl) : Mk l σ (tLst u) H (.lst ds) := fun H1 s Q q => by
  refine h H1 s _ fun vs H2 s2 d2 => ?_
  refine ⟨sz_lit (by rw [d2.length]; exact Nat.le_of_ble_eq_true hz), fun p hp => ?_⟩
  have ne : p ≠ l := fun e => by
    subst e
    rw [s2 _ _ (s _ _ hl)] at hp
    cases hp
  exact q (.ref p) _ (s2.trans (Same.upd hp)) (.lst (by rw [off_ne ne]; exact upd_same) (d2.same (sOff (Same.upd hp))))
theorem mk_dnew {o : HO} (hl : H l = some o) : Mk l σ tDNewK H .dct := fun H1 s Q q p hp => by
  have ne : p ≠ l := fun e => by
    subst e
    rw [s _ _ hl] at hp
    cases hp
  exact q (.ref p) _ (Same.upd hp) (.dct (by rw [off_ne ne]; exact upd_same))
theorem mk_neg {i : Int} : Mk l σ (tUn (rU fun i => .int (-i)) (tC (.int i))) H (.int (-i)) := fun H1 _ _ q => ⟨i, rfl, q _ H1 (Same.refl _) (.int _)⟩
/-- {k: v} -/
theorem mk_disp1 {o : HO} {k : Int} {v : V} (hl : H l = some o) : Mk l σ (tDisp [(tC (.int k), tC v)]) H .dct := fun H1 s Q q p hp => by
  have ne : p ≠ l := fun e => by
    subst e
    rw [s _ _ hl] at hp
    cases hp
  refine ⟨upd_same, [(.inl k, v)], rfl, (by show 1 ≤ 15; decide), ?_⟩
  rw [upd_upd]
  exact q (.ref p) _ (Same.upd hp) (.dct (by rw [off_ne ne]; exact upd_same))
theorem Mk.go {t : TE} {d : D} (h : Mk l σ t H d) {Q : VK} (q : ∀ v H2, Same H H2 → Dt (Off l H2) v d → Q v H2) : t σ H Q := h H (Same.refl H) Q q
/-- xs + [..] -/
theorem mk_cat {t u : TE} {ds es : List D} (h1 : Mk l σ t H (.lst ds)) (h2 : Mk l σ u H (.lst es)) {o : HO} (hl : H l = some o) (hz : Nat.ble (ds.length + es.length) 1000 = true := by rfl) : Mk l σ (tOp rCat t u) H (.lst (ds ++ es)) := fun H1 s Q q => by
  refine h1 H1 s _ fun v H2 s2 d2 => ?_
  refine h2 H2 (s.trans s2) _ fun v3 H3 s3 d3 => ?_
  cases d2 with
  | lst ha2 hall2 =>
    cases d3 with
    | lst ha3 hall3 =>
      have ha2' := s3 _ _ (Off.sub _ _ _ _ ha2)
      have ha3' := Off.sub _ _ _ _ ha3
      refine ⟨_, _, _, _, rfl, rfl, ha2', ha3', sz_lit (by rw [hall2.length, hall3.length]; exact Nat.le_of_ble_eq_true hz), fun p hp => ?_⟩
      have ne : p ≠ l := fun e => by
        subst e
        rw [s3 _ _ (s2 _ _ (s _ _ hl))] at hp
        cases hp
      exact q (.ref p) _ ((s2.trans s3).trans (Same.upd hp)) (.lst (by rw [off_ne ne]; exact upd_same) (((hall2.same (sOff s3)).app hall3).same (sOff (Same.upd hp))))
end
/-! ### sizes of data -/
abbrev Asc (z : Str) : Prop := ∀ c ∈ z.cps.toList, c < 128
mutual
def Ok : D → Prop
  | .int i => i.natAbs < 2 ^ 300
  | .str z => z.length ≤ 3000 ∧ Asc z
  | .lst ds => OkAll ds
  | .tup ds => OkAll ds
  | _ => True
def OkAll : List D → Prop
  | [] => True
  | d :: ds => Ok d ∧ OkAll ds
end
theorem OkAll.mem : ∀ {ds : List D} {d : D}, OkAll ds → d ∈ ds → Ok d
  | [], _, _, m => by simp at m
  | e :: r, d, h, m => by
    rcases List.mem_cons.mp m with rfl | m
    · exact h.1
    · exact OkAll.mem h.2 m
/-- places of a list -/
theorem at_lt {α : Type} {xs : List α} {r : Int} (h0 : 0 ≤ r) (h1 : r < xs.length) : ∃ v, atI xs r = some v ∧ v ∈ xs ∧ xs[r.toNat]? = some v := by
  obtain ⟨n, rfl⟩ := Int.eq_ofNat_of_zero_le h0
  have hn : n < xs.length := by omega
  exact ⟨xs[n], atI_nat (by simp [hn]), List.getElem_mem hn, by simp [hn]⟩
/-! ### the law's draws -/
def Src (H : Hp) (l : Addr) : Prop := ∃ n s : Int, H l = some (.lst [.int n, .int s]) ∧ 0 ≤ n ∧ 0 ≤ s ∧ s < 2147483647
theorem Src.same {H H' : Hp} {l : Addr} (h : Src H l) (s : Same H H') : Src H' l := by
  obtain ⟨n, z, e, r⟩ := h
  exact ⟨n, z, s _ _ e, r⟩
theorem Src.some {H : Hp} {l : Addr} (h : Src H l) : ∃ o, H l = Option.some o := by
  obtain ⟨n, z, e, r⟩ := h
  exact ⟨_, e⟩
theorem Src.ne {H : Hp} {l p : Addr} (h : Src H l) (hp : H p = none) : p ≠ l := fun e => by
  obtain ⟨o, ho⟩ := h.some
  rw [e, ho] at hp
  cases hp
theorem bit_lt (k : Bool) : -(2 ^ 64) < (if k = true then 1 else 0 : Int) ∧ (if k = true then 1 else 0 : Int) < 2 ^ 64 := by
  cases k <;> decide
theorem bit_ge (k : Bool) : 0 ≤ (if k = true then 1 else 0 : Int) := by
  cases k <;> decide
def spSource : Sp := fun vs H Q _ => ∃ (c k : Int), vs = [.int c, .int k] ∧ ∀ (l : Addr) (H' : Hp), H l = none → Same H H' → Src H' l → Q (.ref l) H'
def spDraw : Sp := fun vs H Q _ => ∃ (l : Addr) (m : Int), vs = [.ref l, .int m] ∧ Src H l ∧ 0 < m ∧ m.natAbs.log2 < 9000 ∧ ∀ (r : Int) (H' : Hp), 0 ≤ r → r < m → But l H H' → Src H' l → Q (.int r) H'
theorem log_small {m : Int} {n : Nat} (h0 : 0 < n) (h : m.natAbs < 2 ^ n) (hn : n ≤ 9000) : m.natAbs.log2 < 9000 := Nat.lt_of_lt_of_le (PySem.Flt.log2_lt_of h0 h) hn
end Dear

namespace Dear
open PySem PySem.Spec PyProof.Rows L2
/-! ### kinds of things -/
def isInt : D → Bool
  | .int _ => true
  | _ => false
def isBl : D → Bool
  | .bl _ => true
  | _ => false
def isStr : D → Bool
  | .str _ => true
  | _ => false
def isLst : D → Bool
  | .lst _ => true
  | _ => false
def isTup : D → Bool
  | .tup _ => true
  | _ => false
def isDct : D → Bool
  | .dct => true
  | _ => false
theorem kd_int : ∀ d : D, kitB (kind d) "int" = some (isInt d || isBl d)
  | .non => (by decide +kernel : kitB "NoneType" "int" = some false)
  | .bl _ => (by decide +kernel : kitB "bool" "int" = some true)
  | .int _ => (by decide +kernel : kitB "int" "int" = some true)
  | .str _ => (by decide +kernel : kitB "str" "int" = some false)
  | .lst _ => (by decide +kernel : kitB "list" "int" = some false)
  | .tup _ => (by decide +kernel : kitB "tuple" "int" = some false)
  | .dct => (by decide +kernel : kitB "dict" "int" = some false)
theorem kd_bool : ∀ d : D, kitB (kind d) "bool" = some (isBl d)
  | .non => (by decide +kernel : kitB "NoneType" "bool" = some false)
  | .bl _ => (by decide +kernel : kitB "bool" "bool" = some true)
  | .int _ => (by decide +kernel : kitB "int" "bool" = some false)
  | .str _ => (by decide +kernel : kitB "str" "bool" = some false)
  | .lst _ => (by decide +kernel : kitB "list" "bool" = some false)
  | .tup _ => (by decide +kernel : kitB "tuple" "bool" = some false)
  | .dct => (by decide +kernel : kitB "dict" "bool" = some false)
theorem kd_str : ∀ d : D, kitB (kind d) "str" = some (isStr d)
  | .non => (by decide +kernel : kitB "NoneType" "str" = some false)
  | .bl _ => (by decide +kernel : kitB "bool" "str" = some false)
  | .int _ => (by decide +kernel : kitB "int" "str" = some false)
  | .str _ => (by decide +kernel : kitB "str" "str" = some true)
  | .lst _ => (by decide +kernel : kitB "list" "str" = some false)
  | .tup _ => (by decide +kernel : kitB "tuple" "str" = some false)
  | .dct => (by decide +kernel : kitB "dict" "str" = some false)
theorem kd_list : ∀ d : D, kitB (kind d) "list" = some (isLst d)
  | .non => (by decide +kernel : kitB "NoneType" "list" = some false)
  | .bl _ => (by decide +kernel : kitB "bool" "list" = some false)
  | .int _ => (by decide +kernel : kitB "int" "list" = some false)
  | .str _ => (by decide +kernel : kitB "str" "list" = some false)
  | .lst _ => (by decide +kernel : kitB "list" "list" = some true)
  | .tup _ => (by decide +kernel : kitB "tuple" "list" = some false)
  | .dct => (by decide +kernel : kitB "dict" "list" = some false)
theorem kd_tuple : ∀ d : D, kitB (kind d) "tuple" = some (isTup d)
  | .non => (by decide +kernel : kitB "NoneType" "tuple" = some false)
  | .bl _ => (by decide +kernel : kitB "bool" "tuple" = some false)
  | .int _ => (by decide +kernel : kitB "int" "tuple" = some false)
  | .str _ => (by decide +kernel : kitB "str" "tuple" = some false)
  | .lst _ => (by decide +kernel : kitB "list" "tuple" = some false)
  | .tup _ => (by decide +kernel : kitB "tuple" "tuple" = some true)
  | .dct => (by decide +kernel : kitB "dict" "tuple" = some false)
theorem kd_dict : ∀ d : D, kitB (kind d) "dict" = some (isDct d)
  | .non => (by decide +kernel : kitB "NoneType" "dict" = some false)
  | .bl _ => (by decide +kernel : kitB "bool" "dict" = some false)
  | .int _ => (by decide +kernel : kitB "int" "dict" = some false)
  | .str _ => (by decide +kernel : kitB "str" "dict" = some false)
  | .lst _ => (by decide +kernel : kitB "list" "dict" = some false)
  | .tup _ => (by decide +kernel : kitB "tuple" "dict" = some false)
  | .dct => (by decide +kernel : kitB "dict" "dict" = some true)
/-! ### is_whole, divisor, lowest, is_fraction, is_name -/
def spWhole : Sp := fun vs H Q _ => ∃ (v : V) (d : D), vs = [v] ∧ Dt H v d ∧ Q (.bl (isInt d)) H
def spDivisor : Sp := fun vs H Q _ => ∃ (a b : Int), vs = [.int a, .int b] ∧ 0 ≤ a ∧ 0 ≤ b ∧ Q (.int (Int.gcd a b)) H
/-- in lowest terms -/
def lowT (t b : Int) : Int := t / (Int.gcd b t : Int)
def lowB (t b : Int) : Int := b / (Int.gcd b t : Int)
def spLowest : Sp := fun vs H Q _ => ∃ (t b : Int), vs = [.int t, .int b] ∧ 0 < b ∧ b.natAbs.log2 < 9000 ∧ ∀ (p : Addr) (H' : Hp), H p = none → Same H H' → H' p = some (.tup [.int (lowT t b), .int (lowB t b)]) → Q (.ref p) H'
def isFr : D → Bool
  | .tup [.int t, .int b] => decide (0 < b) && (Int.gcd b t == 1)
  | _ => false
theorem isFr_len : ∀ {ds : List D}, ds.length ≠ 2 → isFr (.tup ds) = false
  | [], _ => rfl
  | [d], _ => by cases d <;> rfl
  | [_, _], h => absurd rfl h
  | d :: e :: _ :: _, _ => by cases d <;> cases e <;> rfl
def spFr : Sp := fun vs H Q _ => ∃ (v : V) (d : D), vs = [v] ∧ Dt H v d ∧ Ok d ∧ ∀ H', Same H H' → Q (.bl (isFr d)) H'
def letters : Str := "abcdefghijklmnopqrstuvwxyz"
def isNm : D → Bool
  | .str z => decide (1 ≤ z.length ∧ z.length ≤ 8) && z.cps.toList.all fun c => decide (c ∈ letters.cps.toList)
  | _ => false
def spNm : Sp := fun vs H Q _ => ∃ (v : V) (d : D), vs = [v] ∧ Dt H v d ∧ Ok d ∧ ∀ H', Same H H' → Q (.bl (isNm d)) H'
theorem gcd_step {a b : Int} (h0 : 0 ≤ a) (h : 0 < b) : Int.gcd b (a % b) = Int.gcd a b := by
  obtain ⟨m, rfl⟩ := Int.eq_ofNat_of_zero_le h0
  obtain ⟨n, rfl⟩ := Int.eq_ofNat_of_zero_le (Int.le_of_lt h)
  show Nat.gcd n (((m : Int) % (n : Int)).natAbs) = Nat.gcd m n
  rw [← Int.natCast_emod, Int.natAbs_natCast, Nat.gcd_comm n, ← Nat.gcd_rec, Nat.gcd_comm]
theorem abs_if (t : Int) : (if t < 0 then -t else t) = (t.natAbs : Int) := by
  split <;> omega
theorem gcd_abs (b t : Int) : Int.gcd b (t.natAbs : Int) = Int.gcd b t := by
  show Nat.gcd b.natAbs ((t.natAbs : Int).natAbs) = Nat.gcd b.natAbs t.natAbs
  rw [Int.natAbs_natCast]
theorem gcd_pos {b : Int} (t : Int) (h : 0 < b) : 0 < (Int.gcd b t : Int) := by
  have h1 : 0 < Int.gcd b t := Nat.gcd_pos_of_pos_left _ (by omega)
  omega
theorem gcd_le {b : Int} (t : Int) (h : 0 < b) : (Int.gcd b t : Int) ≤ b := by
  have h1 : Int.gcd b t ≤ b.natAbs := Nat.le_of_dvd (by omega) (Nat.gcd_dvd_left _ _)
  omega
theorem gcd_log {b : Int} (t : Int) (h : 0 < b) (hl : b.natAbs.log2 < 9000) : ((Int.gcd b t : Nat) : Int).natAbs.log2 < 9000 := by
  have h1 := gcd_le t h
  have h2 : b.natAbs < 2 ^ 9000 := Nat.lt_of_lt_of_le Nat.lt_log2_self (Nat.pow_le_pow_right (by decide) hl)
  have h3 : ((Int.gcd b t : Nat) : Int).natAbs < 2 ^ 9000 := Nat.lt_of_le_of_lt (by omega) h2
  exact PySem.Flt.log2_lt_of (by decide) h3
/-- a fraction is in lowest terms just where it is what lowest makes of it -/
theorem low_eq {t b : Int} (h : 0 < b) : ((lowT t b == t) && (lowB t b == b)) = (Int.gcd b t == 1) := by
  have g0 := gcd_pos t h
  by_cases e : Int.gcd b t = 1
  · have e1 : lowT t b = t := by unfold lowT; rw [e]; exact Int.ediv_one t
    have e2 : lowB t b = b := by unfold lowB; rw [e]; exact Int.ediv_one b
    rw [e1, e2, e]
    simp
  · have e3 : lowB t b ≠ b := by
      unfold lowB
      have g2 : (Int.gcd b t : Int) ≠ 1 := by omega
      have := Int.ediv_lt_self_of_pos_of_ne_one h g2
      omega
    have e4 : (lowB t b == b) = false := by simpa using e3
    have e5 : (Int.gcd b t == 1) = false := by simpa using e
    rw [e4, e5, Bool.and_false]
/-! ### texts -/
theorem in_letters_asc {c : Nat} (h : c ∈ letters.cps.toList) : c < 128 := by
  have : ∀ c ∈ letters.cps.toList, c < 128 := by decide +kernel
  exact this c h
end Dear

namespace Dear
open PySem PySem.Spec PyProof.Rows L2
/-! ### texts and lists of texts -/
theorem join_tl (ys : List Str) : (Txt.join "" ys).cps.toList = (ys.map fun y => y.cps.toList).flatten := by
  rw [TL.join_eq]
  have e := TL.tl_join ("" : Str) ys
  have e0 : TL.tl ("" : Str) = [] := by decide +kernel
  rw [e0] at e
  have g : ∀ l : List (List Nat), TL.joinL [] l = l.flatten := by
    intro l
    induction l with
    | nil => rfl
    | cons a r ih =>
      cases r with
      | nil => simp [TL.joinL]
      | cons b r =>
        rw [List.flatten_cons, ← ih]
        simp [TL.joinL]
  rw [g] at e
  exact e
/-- texts of one sign each -/
def Ones (ys : List Str) : Prop := ∀ y ∈ ys, y.length = 1 ∧ Asc y
theorem ones_join {ys : List Str} (h : Ones ys) : (Txt.join "" ys).length = ys.length ∧ Asc (Txt.join "" ys) := by
  constructor
  · rw [TL.len_tl, TL.tl, join_tl]
    induction ys with
    | nil => rfl
    | cons a r ih =>
      rw [List.map_cons, List.flatten_cons, List.length_append, ih fun y hy => h y (List.mem_cons_of_mem _ hy), List.length_cons]
      have h1 := (h a List.mem_cons_self).1
      rw [TL.len_tl] at h1
      have h2 : a.cps.toList.length = 1 := h1
      show a.cps.toList.length + r.length = r.length + 1
      omega
  · intro c hc
    rw [join_tl] at hc
    obtain ⟨l, hl, hc⟩ := List.mem_flatten.mp hc
    obtain ⟨y, hy, rfl⟩ := List.mem_map.mp hl
    exact (h y hy).2 c hc
theorem ones_size {ys : List Str} (h : Ones ys) (hl : ys.length ≤ 1000) : (ys.map (·.length)).sum + ys.length * ("" : Str).length ≤ 16777216 := by
  have e : (ys.map (·.length)).sum = ys.length := by
    clear hl
    induction ys with
    | nil => rfl
    | cons a r ih =>
      rw [List.map_cons, List.sum_cons, ih fun y hy => h y (List.mem_cons_of_mem _ hy), (h a List.mem_cons_self).1, List.length_cons]
      omega
  have e0 : ("" : Str).length = 0 := by decide +kernel
  rw [e, e0]
  omega
theorem dp_strs {K : PySem.W.Frag} {H : Hp} : ∀ ys : List Str, DpAll K H (ys.map V.str) (ys.map PyData.str)
  | [] => .nil
  | y :: ys => .cons (.str y) (dp_strs ys)
theorem strOk_asc {z : Str} (h : Asc z) : PyData.strOk z = true := by
  unfold PyData.strOk
  rw [Array.all_eq_true']
  intro c hc
  have := h c (by simpa using hc)
  simp
  omega
theorem depth_strs : ∀ ys : List Str, PyData.depthAll (ys.map PyData.str) = 0
  | [] => rfl
  | y :: ys => by
    rw [List.map_cons]
    show max (PyData.depth (.str y)) (PyData.depthAll (ys.map PyData.str)) = 0
    rw [depth_strs ys]
    rfl
theorem lay_strs : ∀ {ys : List Str}, (∀ y ∈ ys, Asc y) → PyData.canLayAll0 (ys.map PyData.str) = true
  | [], _ => rfl
  | y :: ys, h => by
    rw [List.map_cons]
    show (PyData.canLay0 (.str y) && PyData.canLayAll0 (ys.map PyData.str)) = true
    rw [lay_strs fun z hz => h z (List.mem_cons_of_mem _ hz), Bool.and_true]
    exact strOk_asc (h y List.mem_cons_self)
theorem shaped_strs {ys : List Str} (h : ∀ y ∈ ys, Asc y) : SeqAt.shaped (.list (ys.map PyData.str)) = true := by
  show (PyData.canLayAll0 (ys.map PyData.str) && decide (PyData.depthAll (ys.map PyData.str) + 1 ≤ 64)) = true
  rw [lay_strs h, depth_strs]
  rfl
theorem shaped_nil : SeqAt.shaped (.list []) = true := by decide +kernel
theorem eqv_nil : ∀ ds : List PyData, PyData.eqv (.list ds) (.list []) = ds.isEmpty
  | [] => by simp [PyData.eqv, PyData.eqvAll]
  | _ :: _ => by simp [PyData.eqv, PyData.eqvAll]
theorem all_empty {α β : Type} (l : List α) (p : α → Bool) (f : α → β) : l.all p = ((l.filter fun c => !p c).map f).isEmpty := by
  induction l with
  | nil => rfl
  | cons a r ih =>
    rw [List.all_cons, ih, List.filter_cons]
    cases p a <;> simp
theorem asc_one {c : Nat} (h : c < 128) : Asc ⟨#[c]⟩ := fun x hx => by
  have : x = c := by simpa using hx
  omega
theorem ixN_lt {n : Nat} {r : Int} (h0 : 0 ≤ r) (h1 : r < n) : ixN n r = some r.toNat := by
  unfold ixN
  rw [if_pos h0, if_pos h1]
theorem off_some {l p : Addr} {H : Hp} {o : HO} (h : Off l H p = some o) : p ≠ l ∧ H p = some o := by
  have ne : p ≠ l := fun e => by
    have z := (if_pos e).symm.trans h
    cases z
  rw [off_ne ne] at h
  exact ⟨ne, h⟩
theorem mem_cut {xs : List V} {lo hi : Option Int} {v : V} (h : v ∈ cutV xs lo hi) : v ∈ xs := List.mem_of_mem_drop (List.mem_of_mem_take h)
theorem get_ints {ns : List Int} {xs : List V} (h : ∀ v ∈ xs, v ∈ ns.map V.int) {i : Nat} {v : V} (e : xs[i]? = some v) : ∃ z, v = .int z ∧ z ∈ ns := by
  have := h v (List.mem_of_getElem? e)
  obtain ⟨z, hz, rfl⟩ := List.mem_map.mp this
  exact ⟨z, rfl, hz⟩
end Dear

namespace Dear
open PySem PySem.Spec PyProof.Rows L2
/-! ### data as the library's, for == -/
mutual
def py : D → PyData
  | .non => .none
  | .bl b => .bool b
  | .int i => .int i
  | .str z => .str z
  | .lst ds => .list (pyAll ds)
  | .tup ds => .tuple (pyAll ds)
  | .dct => .none
def pyAll : List D → List PyData
  | [] => []
  | d :: ds => py d :: pyAll ds
end
mutual
def NoD : D → Prop
  | .dct => False
  | .lst ds => NoDAll ds
  | .tup ds => NoDAll ds
  | _ => True
def NoDAll : List D → Prop
  | [] => True
  | d :: ds => NoD d ∧ NoDAll ds
end
mutual
theorem Dt.dp {K : PySem.W.Frag} {H : Hp} : ∀ {v : V} {d : D}, NoD d → Dt H v d → Dp K H v (py d)
  | _, _, _, .non => .non
  | _, _, _, .bl b => .bl b
  | _, _, _, .int i => .int i
  | _, _, _, .str z => .str z
  | _, _, n, .lst h a => .lst (SqL.of h) (DtAll.dp n a)
  | _, _, n, .tup h a => .tup (SqT.of h) (DtAll.dp n a)
  | _, _, n, .dct _ => n.elim
theorem DtAll.dp {K : PySem.W.Frag} {H : Hp} : ∀ {vs : List V} {ds : List D}, NoDAll ds → DtAll H vs ds → DpAll K H vs (pyAll ds)
  | _, _, _, .nil => .nil
  | _, _, n, .cons a b => .cons (Dt.dp n.1 a) (DtAll.dp n.2 b)
end
mutual
theorem lay_py : ∀ {d : D}, Ok d → NoD d → PyData.canLay0 (py d) = true
  | .non, _, _ => rfl
  | .bl _, _, _ => rfl
  | .int _, _, _ => rfl
  | .str _, o, _ => strOk_asc o.2
  | .lst _, o, n => layAll_py o n
  | .tup _, o, n => layAll_py o n
  | .dct, _, n => n.elim
theorem layAll_py : ∀ {ds : List D}, OkAll ds → NoDAll ds → PyData.canLayAll0 (pyAll ds) = true
  | [], _, _ => rfl
  | d :: ds, o, n => by
    show (PyData.canLay0 (py d) && PyData.canLayAll0 (pyAll ds)) = true
    rw [lay_py o.1 n.1, layAll_py o.2 n.2]
    rfl
end
/-! how deep -/
mutual
def dep : D → Nat
  | .lst ds => depAll ds + 1
  | .tup ds => depAll ds + 1
  | _ => 0
def depAll : List D → Nat
  | [] => 0
  | d :: ds => max (dep d) (depAll ds)
end
mutual
theorem dep_py : ∀ d : D, PyData.depth (py d) = dep d
  | .non => rfl
  | .bl _ => rfl
  | .int _ => rfl
  | .str _ => rfl
  | .lst ds => congrArg (· + 1) (depAll_py ds)
  | .tup ds => congrArg (· + 1) (depAll_py ds)
  | .dct => rfl
theorem depAll_py : ∀ ds : List D, PyData.depthAll (pyAll ds) = depAll ds
  | [] => rfl
  | d :: ds => by
    show max (PyData.depth (py d)) (PyData.depthAll (pyAll ds)) = max (dep d) (depAll ds)
    rw [dep_py d, depAll_py ds]
end
theorem shaped_py {d : D} (o : Ok d) (n : NoD d) (h : dep d ≤ 64) : SeqAt.shaped (py d) = true := by
  show (PyData.canLay0 (py d) && decide (PyData.depth (py d) ≤ 64)) = true
  rw [lay_py o n, dep_py, decide_eq_true h]
  rfl
theorem depAll_le : ∀ {ds : List D} {n : Nat}, (∀ d ∈ ds, dep d ≤ n) → depAll ds ≤ n
  | [], _, _ => Nat.zero_le _
  | d :: ds, n, h => Nat.max_le.mpr ⟨h d List.mem_cons_self, depAll_le fun x hx => h x (List.mem_cons_of_mem _ hx)⟩
theorem noAll_of : ∀ {ds : List D}, (∀ d ∈ ds, NoD d) → NoDAll ds
  | [], _ => trivial
  | d :: ds, h => ⟨h d List.mem_cons_self, noAll_of fun x hx => h x (List.mem_cons_of_mem _ hx)⟩
theorem strs_flat (zs : List Str) : (∀ d ∈ zs.map D.str, dep d ≤ 0) ∧ ∀ d ∈ zs.map D.str, NoD d := by
  constructor <;> intro d hd <;> obtain ⟨z, _, rfl⟩ := List.mem_map.mp hd
  · exact Nat.le_refl _
  · trivial
theorem eqv_same {d : PyData} (h : SeqAt.shaped d = true) : PyData.eqv d d = true := SeqAt.eqv_refl _ (SeqAt.canLay_of_shaped h)
end Dear

namespace Dear
open PySem PySem.Spec PyProof.Rows L2
/-- law's: a list of at most 63 ints is handed in, True comes out -/
def spLaw (K : PySem.W.Frag) : Sp := fun vs H Q _ => ∃ (a : Addr) (ns : List Int), vs = [.ref a] ∧ SqL K H a (ns.map V.int) ∧ ns.length ≤ 63 ∧ ∀ H', Q (.bl true) H'
end Dear

namespace Dear
open PySem PySem.Spec PyProof.Rows L2
def top (i : Nat) : Stmt := PySem.Challenge.pw_dearsigns_k02_fractions_reckoned.main.body.getD i (.Pass ⟨0, 0, 0, 0⟩)
abbrev s_NoTongue___init__ : Stmt := inClass (top 11) 0
abbrev s_NoWants___init__ : Stmt := inClass (top 12) 0
abbrev s_NoThing___init__ : Stmt := inClass (top 13) 0
abbrev s_BadSign___init__ : Stmt := inClass (top 14) 0
abbrev s_NoText___init__ : Stmt := inClass (top 15) 0
abbrev s_is_whole : Stmt := top 17
abbrev s_divisor : Stmt := top 18
abbrev s_lowest : Stmt := top 19
abbrev s_fraction : Stmt := top 20
abbrev s_plus : Stmt := top 21
abbrev s_minus : Stmt := top 22
abbrev s_times : Stmt := top 23
abbrev s_over : Stmt := top 24
abbrev s_under : Stmt := top 25
abbrev s_sum_of : Stmt := top 26
abbrev s__law_source : Stmt := top 29
abbrev s__law_draw : Stmt := top 30
abbrev s__law_lowest : Stmt := top 31
abbrev s__law_whole : Stmt := top 32
abbrev s__law_is_fraction : Stmt := top 33
abbrev s__law_is_refusal : Stmt := top 34
abbrev s__law_drawn : Stmt := top 35
abbrev s__law_worth : Stmt := top 36
abbrev s__law_parted : Stmt := top 37
abbrev s__law_right : Stmt := top 38
abbrev s__law_sums_right : Stmt := top 39
abbrev s_law : Stmt := top 40
abbrev n_NoTongue___init__ : List Str := ["self", "part"]
theorem c_NoTongue___init__ : FnScope n_NoTongue___init__ ["self", "part"] (defScope s_NoTongue___init__) := ⟨rfl, rfl, rfl, by decide +kernel, rfl, by decide +kernel, by decide +kernel⟩
abbrev n_NoWants___init__ : List Str := ["self", "number"]
theorem c_NoWants___init__ : FnScope n_NoWants___init__ ["self", "number"] (defScope s_NoWants___init__) := ⟨rfl, rfl, rfl, by decide +kernel, rfl, by decide +kernel, by decide +kernel⟩
abbrev n_NoThing___init__ : List Str := ["self", "place"]
theorem c_NoThing___init__ : FnScope n_NoThing___init__ ["self", "place"] (defScope s_NoThing___init__) := ⟨rfl, rfl, rfl, by decide +kernel, rfl, by decide +kernel, by decide +kernel⟩
abbrev n_BadSign___init__ : List Str := ["self", "place"]
theorem c_BadSign___init__ : FnScope n_BadSign___init__ ["self", "place"] (defScope s_BadSign___init__) := ⟨rfl, rfl, rfl, by decide +kernel, rfl, by decide +kernel, by decide +kernel⟩
abbrev n_NoText___init__ : List Str := ["self", "row"]
theorem c_NoText___init__ : FnScope n_NoText___init__ ["self", "row"] (defScope s_NoText___init__) := ⟨rfl, rfl, rfl, by decide +kernel, rfl, by decide +kernel, by decide +kernel⟩
abbrev n_is_whole : List Str := ["thing"]
theorem c_is_whole : FnScope n_is_whole ["thing"] (defScope s_is_whole) := ⟨rfl, rfl, rfl, by decide +kernel, rfl, by decide +kernel, by decide +kernel⟩
abbrev n_divisor : List Str := ["one", "other"]
theorem c_divisor : FnScope n_divisor ["one", "other"] (defScope s_divisor) := ⟨rfl, rfl, rfl, by decide +kernel, rfl, by decide +kernel, by decide +kernel⟩
abbrev n_lowest : List Str := ["top", "bottom", "share"]
theorem c_lowest : FnScope n_lowest ["top", "bottom"] (defScope s_lowest) := ⟨rfl, rfl, rfl, by decide +kernel, rfl, by decide +kernel, by decide +kernel⟩
abbrev n_fraction : List Str := ["top", "bottom"]
theorem c_fraction : FnScope n_fraction ["top", "bottom"] (defScope s_fraction) := ⟨rfl, rfl, rfl, by decide +kernel, rfl, by decide +kernel, by decide +kernel⟩
abbrev n_plus : List Str := ["one", "other"]
theorem c_plus : FnScope n_plus ["one", "other"] (defScope s_plus) := ⟨rfl, rfl, rfl, by decide +kernel, rfl, by decide +kernel, by decide +kernel⟩
abbrev n_minus : List Str := ["one", "other"]
theorem c_minus : FnScope n_minus ["one", "other"] (defScope s_minus) := ⟨rfl, rfl, rfl, by decide +kernel, rfl, by decide +kernel, by decide +kernel⟩
abbrev n_times : List Str := ["one", "other"]
theorem c_times : FnScope n_times ["one", "other"] (defScope s_times) := ⟨rfl, rfl, rfl, by decide +kernel, rfl, by decide +kernel, by decide +kernel⟩
abbrev n_over : List Str := ["one", "other"]
theorem c_over : FnScope n_over ["one", "other"] (defScope s_over) := ⟨rfl, rfl, rfl, by decide +kernel, rfl, by decide +kernel, by decide +kernel⟩
abbrev n_under : List Str := ["one", "other"]
theorem c_under : FnScope n_under ["one", "other"] (defScope s_under) := ⟨rfl, rfl, rfl, by decide +kernel, rfl, by decide +kernel, by decide +kernel⟩
abbrev n_sum_of : List Str := ["some", "found", "one"]
theorem c_sum_of : FnScope n_sum_of ["some"] (defScope s_sum_of) := ⟨rfl, rfl, rfl, by decide +kernel, rfl, by decide +kernel, by decide +kernel⟩
abbrev n__law_source : List Str := ["_law_cell_here", "_law_k", "_law_number", "_law_seed"]
theorem c__law_source : FnScope n__law_source ["_law_cell_here", "_law_k"] (defScope s__law_source) := ⟨rfl, rfl, rfl, by decide +kernel, rfl, by decide +kernel, by decide +kernel⟩
abbrev n__law_draw : List Str := ["_law_source_here", "_law_many", "_law_digit"]
theorem c__law_draw : FnScope n__law_draw ["_law_source_here", "_law_many"] (defScope s__law_draw) := ⟨rfl, rfl, rfl, by decide +kernel, rfl, by decide +kernel, by decide +kernel⟩
abbrev n__law_lowest : List Str := ["_law_top", "_law_bottom", "_law_one", "_law_other"]
theorem c__law_lowest : FnScope n__law_lowest ["_law_top", "_law_bottom"] (defScope s__law_lowest) := ⟨rfl, rfl, rfl, by decide +kernel, rfl, by decide +kernel, by decide +kernel⟩
abbrev n__law_whole : List Str := ["_law_found"]
theorem c__law_whole : FnScope n__law_whole ["_law_found"] (defScope s__law_whole) := ⟨rfl, rfl, rfl, by decide +kernel, rfl, by decide +kernel, by decide +kernel⟩
abbrev n__law_is_fraction : List Str := ["_law_found"]
theorem c__law_is_fraction : FnScope n__law_is_fraction ["_law_found"] (defScope s__law_is_fraction) := ⟨rfl, rfl, rfl, by decide +kernel, rfl, by decide +kernel, by decide +kernel⟩
abbrev n__law_is_refusal : List Str := ["_law_kept"]
theorem c__law_is_refusal : FnScope n__law_is_refusal ["_law_kept"] (defScope s__law_is_refusal) := ⟨rfl, rfl, rfl, by decide +kernel, rfl, by decide +kernel, by decide +kernel⟩
abbrev n__law_drawn : List Str := ["_law_source_here", "_law_wide", "_law_top"]
theorem c__law_drawn : FnScope n__law_drawn ["_law_source_here"] (defScope s__law_drawn) := ⟨rfl, rfl, rfl, by decide +kernel, rfl, by decide +kernel, by decide +kernel⟩
abbrev n__law_worth : List Str := ["_law_found", "_law_top", "_law_bottom"]
theorem c__law_worth : FnScope n__law_worth ["_law_found", "_law_top", "_law_bottom"] (defScope s__law_worth) := ⟨rfl, rfl, rfl, by decide +kernel, rfl, by decide +kernel, by decide +kernel⟩
abbrev n__law_parted : List Str := ["_law_one", "_law_other", "_law_kept", "_law_found", "e"]
theorem c__law_parted : FnScope n__law_parted ["_law_one", "_law_other"] (defScope s__law_parted) := ⟨rfl, rfl, rfl, by decide +kernel, rfl, by decide +kernel, by decide +kernel⟩
abbrev n__law_right : List Str := ["_law_one", "_law_other", "_law_a", "_law_b", "_law_c", "_law_d", "_law_found"]
theorem c__law_right : FnScope n__law_right ["_law_one", "_law_other"] (defScope s__law_right) := ⟨rfl, rfl, rfl, by decide +kernel, rfl, by decide +kernel, by decide +kernel⟩
abbrev n__law_sums_right : List Str := ["_law_some", "_law_handed", "_law_due", "_law_one", "_law_kept"]
theorem c__law_sums_right : FnScope n__law_sums_right ["_law_some"] (defScope s__law_sums_right) := ⟨rfl, rfl, rfl, by decide +kernel, rfl, by decide +kernel, by decide +kernel⟩
abbrev n_law : List Str := ["_law_script", "_law_ahead", "_law_some", "_law_k", "_law_cell_here", "_law_source_here", "_law_one", "_law_other"]
theorem c_law : FnScope n_law ["_law_script"] (defScope s_law) := ⟨rfl, rfl, rfl, by decide +kernel, rfl, by decide +kernel, by decide +kernel⟩
structure Ads where
  DearError : Addr
  NoNumber : Addr
  NoBook : Addr
  NoTree : Addr
  TooMany : Addr
  NoCount : Addr
  NoUndo : Addr
  NoTurn : Addr
  NoRow : Addr
  Unknown : Addr
  NoTongue : Addr
  NoWants : Addr
  NoThing : Addr
  BadSign : Addr
  NoText : Addr
/-- what the top has left -/
structure Txt (K : PySem.W.Frag) (mg : Str → Option Value) where
  A : Ads
  C_DearError : mg "DearError" = some (.ref A.DearError)
  C_NoNumber : mg "NoNumber" = some (.ref A.NoNumber)
  C_NoBook : mg "NoBook" = some (.ref A.NoBook)
  C_NoTree : mg "NoTree" = some (.ref A.NoTree)
  C_TooMany : mg "TooMany" = some (.ref A.TooMany)
  C_NoCount : mg "NoCount" = some (.ref A.NoCount)
  C_NoUndo : mg "NoUndo" = some (.ref A.NoUndo)
  C_NoTurn : mg "NoTurn" = some (.ref A.NoTurn)
  C_NoRow : mg "NoRow" = some (.ref A.NoRow)
  C_Unknown : mg "Unknown" = some (.ref A.Unknown)
  C_NoTongue : mg "NoTongue" = some (.ref A.NoTongue)
  C_NoWants : mg "NoWants" = some (.ref A.NoWants)
  C_NoThing : mg "NoThing" = some (.ref A.NoThing)
  C_BadSign : mg "BadSign" = some (.ref A.BadSign)
  C_NoText : mg "NoText" = some (.ref A.NoText)
  X_NoNumber : ExOwn K mg "NoNumber" A.NoNumber
  q_NoNumber_DearError : PySem.W.kitOne K (.ref A.NoNumber) (.ref A.DearError) = some true
  q_NoNumber_NoNumber : PySem.W.kitOne K (.ref A.NoNumber) (.ref A.NoNumber) = some true
  q_NoNumber_NoBook : PySem.W.kitOne K (.ref A.NoNumber) (.ref A.NoBook) = some false
  q_NoNumber_NoTree : PySem.W.kitOne K (.ref A.NoNumber) (.ref A.NoTree) = some false
  q_NoNumber_TooMany : PySem.W.kitOne K (.ref A.NoNumber) (.ref A.TooMany) = some false
  q_NoNumber_NoCount : PySem.W.kitOne K (.ref A.NoNumber) (.ref A.NoCount) = some false
  q_NoNumber_NoUndo : PySem.W.kitOne K (.ref A.NoNumber) (.ref A.NoUndo) = some false
  q_NoNumber_NoTurn : PySem.W.kitOne K (.ref A.NoNumber) (.ref A.NoTurn) = some false
  q_NoNumber_NoRow : PySem.W.kitOne K (.ref A.NoNumber) (.ref A.NoRow) = some false
  q_NoNumber_Unknown : PySem.W.kitOne K (.ref A.NoNumber) (.ref A.Unknown) = some false
  q_NoNumber_NoTongue : PySem.W.kitOne K (.ref A.NoNumber) (.ref A.NoTongue) = some false
  q_NoNumber_NoWants : PySem.W.kitOne K (.ref A.NoNumber) (.ref A.NoWants) = some false
  q_NoNumber_NoThing : PySem.W.kitOne K (.ref A.NoNumber) (.ref A.NoThing) = some false
  q_NoNumber_BadSign : PySem.W.kitOne K (.ref A.NoNumber) (.ref A.BadSign) = some false
  q_NoNumber_NoText : PySem.W.kitOne K (.ref A.NoNumber) (.ref A.NoText) = some false
  q_NoNumber_ValueError : PySem.W.kitOne K (.ref A.NoNumber) (.type "ValueError") = some true
  m_NoNumber : PySem.W.exmOne K (.ref A.NoNumber) (.ref A.DearError) = some true
  f_is_whole : Df K mg "is_whole" s_is_whole ["thing"]
  f_divisor : Df K mg "divisor" s_divisor ["one", "other"]
  f_lowest : Df K mg "lowest" s_lowest ["top", "bottom"]
  f_fraction : DfD K mg "fraction" s_fraction ["top", "bottom"] [.int 1]
  f_plus : Df K mg "plus" s_plus ["one", "other"]
  f_minus : Df K mg "minus" s_minus ["one", "other"]
  f_times : Df K mg "times" s_times ["one", "other"]
  f_over : Df K mg "over" s_over ["one", "other"]
  f_under : Df K mg "under" s_under ["one", "other"]
  f_sum_of : Df K mg "sum_of" s_sum_of ["some"]
  f__law_source : Df K mg "_law_source" s__law_source ["_law_cell_here", "_law_k"]
  f__law_draw : Df K mg "_law_draw" s__law_draw ["_law_source_here", "_law_many"]
  f__law_lowest : Df K mg "_law_lowest" s__law_lowest ["_law_top", "_law_bottom"]
  f__law_whole : Df K mg "_law_whole" s__law_whole ["_law_found"]
  f__law_is_fraction : Df K mg "_law_is_fraction" s__law_is_fraction ["_law_found"]
  f__law_is_refusal : Df K mg "_law_is_refusal" s__law_is_refusal ["_law_kept"]
  f__law_drawn : Df K mg "_law_drawn" s__law_drawn ["_law_source_here"]
  f__law_worth : Df K mg "_law_worth" s__law_worth ["_law_found", "_law_top", "_law_bottom"]
  f__law_parted : Df K mg "_law_parted" s__law_parted ["_law_one", "_law_other"]
  f__law_right : Df K mg "_law_right" s__law_right ["_law_one", "_law_other"]
  f__law_sums_right : Df K mg "_law_sums_right" s__law_sums_right ["_law_some"]
  f_law : Df K mg "law" s_law ["_law_script"]
  b_ValueError : mg "ValueError" = none
  b_abs : mg "abs" = none
  b_bool : mg "bool" = none
  b_enumerate : mg "enumerate" = none
  b_int : mg "int" = none
  b_isinstance : mg "isinstance" = none
  b_len : mg "len" = none
  b_list : mg "list" = none
  b_tuple : mg "tuple" = none
def txt_mk {K : PySem.W.Frag} {h : Heap} {mg : Str → Option Value} (X : K.In h) (G : h.Ns mainGlobals mg)
    {C_DearError : Addr} {C_NoNumber : Addr} {C_NoBook : Addr} {C_NoTree : Addr} {C_TooMany : Addr} {C_NoCount : Addr} {C_NoUndo : Addr} {C_NoTurn : Addr} {C_NoRow : Addr} {C_Unknown : Addr} {C_NoTongue : Addr} {C_NoWants : Addr} {C_NoThing : Addr} {C_BadSign : Addr} {C_NoText : Addr} 
    {f1 : Addr} {od1 an1 : Option Addr} {sl1 : Array (Option Value)} {oc1 kV1 dc1 pm1 cd1 ct1 : Value}
    {f2 : Addr} {od2 an2 : Option Addr} {sl2 : Array (Option Value)} {oc2 kV2 dc2 pm2 cd2 ct2 : Value}
    {f3 : Addr} {od3 an3 : Option Addr} {sl3 : Array (Option Value)} {oc3 kV3 dc3 pm3 cd3 ct3 : Value}
    {f4 T4 : Addr} {od4 an4 oD4 : Option Addr} {sl4 sD4 : Array (Option Value)} {oc4 kV4 dc4 pm4 cd4 ct4 oC4 : Value} {n4 : Nat} {u4_0 : Tok}
    {f5 : Addr} {od5 an5 : Option Addr} {sl5 : Array (Option Value)} {oc5 kV5 dc5 pm5 cd5 ct5 : Value}
    {f6 : Addr} {od6 an6 : Option Addr} {sl6 : Array (Option Value)} {oc6 kV6 dc6 pm6 cd6 ct6 : Value}
    {f7 : Addr} {od7 an7 : Option Addr} {sl7 : Array (Option Value)} {oc7 kV7 dc7 pm7 cd7 ct7 : Value}
    {f8 : Addr} {od8 an8 : Option Addr} {sl8 : Array (Option Value)} {oc8 kV8 dc8 pm8 cd8 ct8 : Value}
    {f9 : Addr} {od9 an9 : Option Addr} {sl9 : Array (Option Value)} {oc9 kV9 dc9 pm9 cd9 ct9 : Value}
    {f10 : Addr} {od10 an10 : Option Addr} {sl10 : Array (Option Value)} {oc10 kV10 dc10 pm10 cd10 ct10 : Value}
    {f11 : Addr} {od11 an11 : Option Addr} {sl11 : Array (Option Value)} {oc11 kV11 dc11 pm11 cd11 ct11 : Value}
    {f12 : Addr} {od12 an12 : Option Addr} {sl12 : Array (Option Value)} {oc12 kV12 dc12 pm12 cd12 ct12 : Value}
    {f13 : Addr} {od13 an13 : Option Addr} {sl13 : Array (Option Value)} {oc13 kV13 dc13 pm13 cd13 ct13 : Value}
    {f14 : Addr} {od14 an14 : Option Addr} {sl14 : Array (Option Value)} {oc14 kV14 dc14 pm14 cd14 ct14 : Value}
    {f15 : Addr} {od15 an15 : Option Addr} {sl15 : Array (Option Value)} {oc15 kV15 dc15 pm15 cd15 ct15 : Value}
    {f16 : Addr} {od16 an16 : Option Addr} {sl16 : Array (Option Value)} {oc16 kV16 dc16 pm16 cd16 ct16 : Value}
    {f17 : Addr} {od17 an17 : Option Addr} {sl17 : Array (Option Value)} {oc17 kV17 dc17 pm17 cd17 ct17 : Value}
    {f18 : Addr} {od18 an18 : Option Addr} {sl18 : Array (Option Value)} {oc18 kV18 dc18 pm18 cd18 ct18 : Value}
    {f19 : Addr} {od19 an19 : Option Addr} {sl19 : Array (Option Value)} {oc19 kV19 dc19 pm19 cd19 ct19 : Value}
    {f20 : Addr} {od20 an20 : Option Addr} {sl20 : Array (Option Value)} {oc20 kV20 dc20 pm20 cd20 ct20 : Value}
    {f21 : Addr} {od21 an21 : Option Addr} {sl21 : Array (Option Value)} {oc21 kV21 dc21 pm21 cd21 ct21 : Value}
    {f22 : Addr} {od22 an22 : Option Addr} {sl22 : Array (Option Value)} {oc22 kV22 dc22 pm22 cd22 ct22 : Value}
    (g_DearError : PySem.W.nsIn K mainGlobals "DearError" = some (some (.ref C_DearError)))
    (i_DearError : PySem.W.isClsIn K C_DearError = true) (t_DearError : PySem.W.typeIn K (.ref C_DearError) = some (.type "type"))
    (g_NoNumber : PySem.W.nsIn K mainGlobals "NoNumber" = some (some (.ref C_NoNumber)))
    (i_NoNumber : PySem.W.isClsIn K C_NoNumber = true) (t_NoNumber : PySem.W.typeIn K (.ref C_NoNumber) = some (.type "type"))
    (g_NoBook : PySem.W.nsIn K mainGlobals "NoBook" = some (some (.ref C_NoBook)))
    (i_NoBook : PySem.W.isClsIn K C_NoBook = true) (t_NoBook : PySem.W.typeIn K (.ref C_NoBook) = some (.type "type"))
    (g_NoTree : PySem.W.nsIn K mainGlobals "NoTree" = some (some (.ref C_NoTree)))
    (i_NoTree : PySem.W.isClsIn K C_NoTree = true) (t_NoTree : PySem.W.typeIn K (.ref C_NoTree) = some (.type "type"))
    (g_TooMany : PySem.W.nsIn K mainGlobals "TooMany" = some (some (.ref C_TooMany)))
    (i_TooMany : PySem.W.isClsIn K C_TooMany = true) (t_TooMany : PySem.W.typeIn K (.ref C_TooMany) = some (.type "type"))
    (g_NoCount : PySem.W.nsIn K mainGlobals "NoCount" = some (some (.ref C_NoCount)))
    (i_NoCount : PySem.W.isClsIn K C_NoCount = true) (t_NoCount : PySem.W.typeIn K (.ref C_NoCount) = some (.type "type"))
    (g_NoUndo : PySem.W.nsIn K mainGlobals "NoUndo" = some (some (.ref C_NoUndo)))
    (i_NoUndo : PySem.W.isClsIn K C_NoUndo = true) (t_NoUndo : PySem.W.typeIn K (.ref C_NoUndo) = some (.type "type"))
    (g_NoTurn : PySem.W.nsIn K mainGlobals "NoTurn" = some (some (.ref C_NoTurn)))
    (i_NoTurn : PySem.W.isClsIn K C_NoTurn = true) (t_NoTurn : PySem.W.typeIn K (.ref C_NoTurn) = some (.type "type"))
    (g_NoRow : PySem.W.nsIn K mainGlobals "NoRow" = some (some (.ref C_NoRow)))
    (i_NoRow : PySem.W.isClsIn K C_NoRow = true) (t_NoRow : PySem.W.typeIn K (.ref C_NoRow) = some (.type "type"))
    (g_Unknown : PySem.W.nsIn K mainGlobals "Unknown" = some (some (.ref C_Unknown)))
    (i_Unknown : PySem.W.isClsIn K C_Unknown = true) (t_Unknown : PySem.W.typeIn K (.ref C_Unknown) = some (.type "type"))
    (g_NoTongue : PySem.W.nsIn K mainGlobals "NoTongue" = some (some (.ref C_NoTongue)))
    (i_NoTongue : PySem.W.isClsIn K C_NoTongue = true) (t_NoTongue : PySem.W.typeIn K (.ref C_NoTongue) = some (.type "type"))
    (g_NoWants : PySem.W.nsIn K mainGlobals "NoWants" = some (some (.ref C_NoWants)))
    (i_NoWants : PySem.W.isClsIn K C_NoWants = true) (t_NoWants : PySem.W.typeIn K (.ref C_NoWants) = some (.type "type"))
    (g_NoThing : PySem.W.nsIn K mainGlobals "NoThing" = some (some (.ref C_NoThing)))
    (i_NoThing : PySem.W.isClsIn K C_NoThing = true) (t_NoThing : PySem.W.typeIn K (.ref C_NoThing) = some (.type "type"))
    (g_BadSign : PySem.W.nsIn K mainGlobals "BadSign" = some (some (.ref C_BadSign)))
    (i_BadSign : PySem.W.isClsIn K C_BadSign = true) (t_BadSign : PySem.W.typeIn K (.ref C_BadSign) = some (.type "type"))
    (g_NoText : PySem.W.nsIn K mainGlobals "NoText" = some (some (.ref C_NoText)))
    (i_NoText : PySem.W.isClsIn K C_NoText = true) (t_NoText : PySem.W.typeIn K (.ref C_NoText) = some (.type "type"))
    (b_DearError : PySem.W.subIn K (.ref C_DearError) (.type "BaseException") = some true)
    (x1_NoNumber : PySem.W.excIn K C_NoNumber [.type "ValueError", .type "Exception", .type "BaseException", .type "object"] "ValueError.__new__" = true)
    (x2_NoNumber : PySem.W.keepIn K (.ref C_NoNumber) = true)
    (x3_NoNumber : PySem.W.subIn K (.ref C_NoNumber) (.type "BaseException") = some true)
    (x4_NoNumber : PySem.W.typeIn K (.ref C_NoNumber) = some (.type "type"))
    (x5_NoNumber : PySem.W.findIn K (.ref C_NoNumber) "__getattribute__" = some (some (.builtin "BaseException.__getattribute__")))
    (x6_NoNumber : PySem.W.findIn K (.ref C_NoNumber) "__getattr__" = some none)
    (x7_NoNumber : PySem.W.hasDictIn K C_NoNumber = true)
    (x8_NoNumber : PySem.W.findIn K (.ref C_NoNumber) "__class__" = some (some (.builtin "object.__class__")))
    (x9_NoNumber : PySem.W.specialIn K (.builtin "object.__class__") "__get__" = some (some (.builtin "getset_descriptor.__get__")))
    (x10_NoNumber : PySem.W.takesIn K (.builtin "object.__class__") = some true)
    (x11_NoNumber : PySem.W.mroIn K C_NoNumber (.type "object") = some true)
    (q_NoNumber_DearError : PySem.W.subIn K (.ref C_NoNumber) (.ref C_DearError) = some true)
    (n_NoNumber_DearError : (Value.ref C_NoNumber == Value.ref C_DearError) = false)
    (q_NoNumber_NoNumber : PySem.W.subIn K (.ref C_NoNumber) (.ref C_NoNumber) = some true)
    (q_NoNumber_NoBook : PySem.W.subIn K (.ref C_NoNumber) (.ref C_NoBook) = some false)
    (n_NoNumber_NoBook : (Value.ref C_NoNumber == Value.ref C_NoBook) = false)
    (q_NoNumber_NoTree : PySem.W.subIn K (.ref C_NoNumber) (.ref C_NoTree) = some false)
    (n_NoNumber_NoTree : (Value.ref C_NoNumber == Value.ref C_NoTree) = false)
    (q_NoNumber_TooMany : PySem.W.subIn K (.ref C_NoNumber) (.ref C_TooMany) = some false)
    (n_NoNumber_TooMany : (Value.ref C_NoNumber == Value.ref C_TooMany) = false)
    (q_NoNumber_NoCount : PySem.W.subIn K (.ref C_NoNumber) (.ref C_NoCount) = some false)
    (n_NoNumber_NoCount : (Value.ref C_NoNumber == Value.ref C_NoCount) = false)
    (q_NoNumber_NoUndo : PySem.W.subIn K (.ref C_NoNumber) (.ref C_NoUndo) = some false)
    (n_NoNumber_NoUndo : (Value.ref C_NoNumber == Value.ref C_NoUndo) = false)
    (q_NoNumber_NoTurn : PySem.W.subIn K (.ref C_NoNumber) (.ref C_NoTurn) = some false)
    (n_NoNumber_NoTurn : (Value.ref C_NoNumber == Value.ref C_NoTurn) = false)
    (q_NoNumber_NoRow : PySem.W.subIn K (.ref C_NoNumber) (.ref C_NoRow) = some false)
    (n_NoNumber_NoRow : (Value.ref C_NoNumber == Value.ref C_NoRow) = false)
    (q_NoNumber_Unknown : PySem.W.subIn K (.ref C_NoNumber) (.ref C_Unknown) = some false)
    (n_NoNumber_Unknown : (Value.ref C_NoNumber == Value.ref C_Unknown) = false)
    (q_NoNumber_NoTongue : PySem.W.subIn K (.ref C_NoNumber) (.ref C_NoTongue) = some false)
    (n_NoNumber_NoTongue : (Value.ref C_NoNumber == Value.ref C_NoTongue) = false)
    (q_NoNumber_NoWants : PySem.W.subIn K (.ref C_NoNumber) (.ref C_NoWants) = some false)
    (n_NoNumber_NoWants : (Value.ref C_NoNumber == Value.ref C_NoWants) = false)
    (q_NoNumber_NoThing : PySem.W.subIn K (.ref C_NoNumber) (.ref C_NoThing) = some false)
    (n_NoNumber_NoThing : (Value.ref C_NoNumber == Value.ref C_NoThing) = false)
    (q_NoNumber_BadSign : PySem.W.subIn K (.ref C_NoNumber) (.ref C_BadSign) = some false)
    (n_NoNumber_BadSign : (Value.ref C_NoNumber == Value.ref C_BadSign) = false)
    (q_NoNumber_NoText : PySem.W.subIn K (.ref C_NoNumber) (.ref C_NoText) = some false)
    (n_NoNumber_NoText : (Value.ref C_NoNumber == Value.ref C_NoText) = false)
    (q_NoNumber_ValueError : PySem.W.subIn K (.ref C_NoNumber) (.type "ValueError") = some true)
    (a1 : PySem.W.nsIn K mainGlobals "is_whole" = some (some (.ref f1))) (l1 : K.lookup f1 = some ⟨oc1, od1, .func (PySem.W.fnOf "is_whole" "is_whole" (defArgs s_is_whole) (defBody s_is_whole) (defScope s_is_whole) .none kV1 dc1 pm1 an1 cd1 ct1), sl1⟩) (c1 : PySem.W.codeIn K cd1 "is_whole" = true) (k1 : PySem.W.keepIn K (.ref f1) = true)
    (a2 : PySem.W.nsIn K mainGlobals "divisor" = some (some (.ref f2))) (l2 : K.lookup f2 = some ⟨oc2, od2, .func (PySem.W.fnOf "divisor" "divisor" (defArgs s_divisor) (defBody s_divisor) (defScope s_divisor) .none kV2 dc2 pm2 an2 cd2 ct2), sl2⟩) (c2 : PySem.W.codeIn K cd2 "divisor" = true) (k2 : PySem.W.keepIn K (.ref f2) = true)
    (a3 : PySem.W.nsIn K mainGlobals "lowest" = some (some (.ref f3))) (l3 : K.lookup f3 = some ⟨oc3, od3, .func (PySem.W.fnOf "lowest" "lowest" (defArgs s_lowest) (defBody s_lowest) (defScope s_lowest) .none kV3 dc3 pm3 an3 cd3 ct3), sl3⟩) (c3 : PySem.W.codeIn K cd3 "lowest" = true) (k3 : PySem.W.keepIn K (.ref f3) = true)
    (a4 : PySem.W.nsIn K mainGlobals "fraction" = some (some (.ref f4))) (l4 : K.lookup f4 = some ⟨oc4, od4, .func (PySem.W.fnOf "fraction" "fraction" (defArgs s_fraction) (defBody s_fraction) (defScope s_fraction) (.ref T4) kV4 dc4 pm4 an4 cd4 ct4), sl4⟩) (c4 : PySem.W.codeIn K cd4 "fraction" = true) (k4 : PySem.W.keepIn K (.ref f4) = true) (d4 : K.lookup T4 = some ⟨oC4, oD4, .seq #[.int 1 u4_0] n4, sD4⟩)
    (a5 : PySem.W.nsIn K mainGlobals "plus" = some (some (.ref f5))) (l5 : K.lookup f5 = some ⟨oc5, od5, .func (PySem.W.fnOf "plus" "plus" (defArgs s_plus) (defBody s_plus) (defScope s_plus) .none kV5 dc5 pm5 an5 cd5 ct5), sl5⟩) (c5 : PySem.W.codeIn K cd5 "plus" = true) (k5 : PySem.W.keepIn K (.ref f5) = true)
    (a6 : PySem.W.nsIn K mainGlobals "minus" = some (some (.ref f6))) (l6 : K.lookup f6 = some ⟨oc6, od6, .func (PySem.W.fnOf "minus" "minus" (defArgs s_minus) (defBody s_minus) (defScope s_minus) .none kV6 dc6 pm6 an6 cd6 ct6), sl6⟩) (c6 : PySem.W.codeIn K cd6 "minus" = true) (k6 : PySem.W.keepIn K (.ref f6) = true)
    (a7 : PySem.W.nsIn K mainGlobals "times" = some (some (.ref f7))) (l7 : K.lookup f7 = some ⟨oc7, od7, .func (PySem.W.fnOf "times" "times" (defArgs s_times) (defBody s_times) (defScope s_times) .none kV7 dc7 pm7 an7 cd7 ct7), sl7⟩) (c7 : PySem.W.codeIn K cd7 "times" = true) (k7 : PySem.W.keepIn K (.ref f7) = true)
    (a8 : PySem.W.nsIn K mainGlobals "over" = some (some (.ref f8))) (l8 : K.lookup f8 = some ⟨oc8, od8, .func (PySem.W.fnOf "over" "over" (defArgs s_over) (defBody s_over) (defScope s_over) .none kV8 dc8 pm8 an8 cd8 ct8), sl8⟩) (c8 : PySem.W.codeIn K cd8 "over" = true) (k8 : PySem.W.keepIn K (.ref f8) = true)
    (a9 : PySem.W.nsIn K mainGlobals "under" = some (some (.ref f9))) (l9 : K.lookup f9 = some ⟨oc9, od9, .func (PySem.W.fnOf "under" "under" (defArgs s_under) (defBody s_under) (defScope s_under) .none kV9 dc9 pm9 an9 cd9 ct9), sl9⟩) (c9 : PySem.W.codeIn K cd9 "under" = true) (k9 : PySem.W.keepIn K (.ref f9) = true)
    (a10 : PySem.W.nsIn K mainGlobals "sum_of" = some (some (.ref f10))) (l10 : K.lookup f10 = some ⟨oc10, od10, .func (PySem.W.fnOf "sum_of" "sum_of" (defArgs s_sum_of) (defBody s_sum_of) (defScope s_sum_of) .none kV10 dc10 pm10 an10 cd10 ct10), sl10⟩) (c10 : PySem.W.codeIn K cd10 "sum_of" = true) (k10 : PySem.W.keepIn K (.ref f10) = true)
    (a11 : PySem.W.nsIn K mainGlobals "_law_source" = some (some (.ref f11))) (l11 : K.lookup f11 = some ⟨oc11, od11, .func (PySem.W.fnOf "_law_source" "_law_source" (defArgs s__law_source) (defBody s__law_source) (defScope s__law_source) .none kV11 dc11 pm11 an11 cd11 ct11), sl11⟩) (c11 : PySem.W.codeIn K cd11 "_law_source" = true) (k11 : PySem.W.keepIn K (.ref f11) = true)
    (a12 : PySem.W.nsIn K mainGlobals "_law_draw" = some (some (.ref f12))) (l12 : K.lookup f12 = some ⟨oc12, od12, .func (PySem.W.fnOf "_law_draw" "_law_draw" (defArgs s__law_draw) (defBody s__law_draw) (defScope s__law_draw) .none kV12 dc12 pm12 an12 cd12 ct12), sl12⟩) (c12 : PySem.W.codeIn K cd12 "_law_draw" = true) (k12 : PySem.W.keepIn K (.ref f12) = true)
    (a13 : PySem.W.nsIn K mainGlobals "_law_lowest" = some (some (.ref f13))) (l13 : K.lookup f13 = some ⟨oc13, od13, .func (PySem.W.fnOf "_law_lowest" "_law_lowest" (defArgs s__law_lowest) (defBody s__law_lowest) (defScope s__law_lowest) .none kV13 dc13 pm13 an13 cd13 ct13), sl13⟩) (c13 : PySem.W.codeIn K cd13 "_law_lowest" = true) (k13 : PySem.W.keepIn K (.ref f13) = true)
    (a14 : PySem.W.nsIn K mainGlobals "_law_whole" = some (some (.ref f14))) (l14 : K.lookup f14 = some ⟨oc14, od14, .func (PySem.W.fnOf "_law_whole" "_law_whole" (defArgs s__law_whole) (defBody s__law_whole) (defScope s__law_whole) .none kV14 dc14 pm14 an14 cd14 ct14), sl14⟩) (c14 : PySem.W.codeIn K cd14 "_law_whole" = true) (k14 : PySem.W.keepIn K (.ref f14) = true)
    (a15 : PySem.W.nsIn K mainGlobals "_law_is_fraction" = some (some (.ref f15))) (l15 : K.lookup f15 = some ⟨oc15, od15, .func (PySem.W.fnOf "_law_is_fraction" "_law_is_fraction" (defArgs s__law_is_fraction) (defBody s__law_is_fraction) (defScope s__law_is_fraction) .none kV15 dc15 pm15 an15 cd15 ct15), sl15⟩) (c15 : PySem.W.codeIn K cd15 "_law_is_fraction" = true) (k15 : PySem.W.keepIn K (.ref f15) = true)
    (a16 : PySem.W.nsIn K mainGlobals "_law_is_refusal" = some (some (.ref f16))) (l16 : K.lookup f16 = some ⟨oc16, od16, .func (PySem.W.fnOf "_law_is_refusal" "_law_is_refusal" (defArgs s__law_is_refusal) (defBody s__law_is_refusal) (defScope s__law_is_refusal) .none kV16 dc16 pm16 an16 cd16 ct16), sl16⟩) (c16 : PySem.W.codeIn K cd16 "_law_is_refusal" = true) (k16 : PySem.W.keepIn K (.ref f16) = true)
    (a17 : PySem.W.nsIn K mainGlobals "_law_drawn" = some (some (.ref f17))) (l17 : K.lookup f17 = some ⟨oc17, od17, .func (PySem.W.fnOf "_law_drawn" "_law_drawn" (defArgs s__law_drawn) (defBody s__law_drawn) (defScope s__law_drawn) .none kV17 dc17 pm17 an17 cd17 ct17), sl17⟩) (c17 : PySem.W.codeIn K cd17 "_law_drawn" = true) (k17 : PySem.W.keepIn K (.ref f17) = true)
    (a18 : PySem.W.nsIn K mainGlobals "_law_worth" = some (some (.ref f18))) (l18 : K.lookup f18 = some ⟨oc18, od18, .func (PySem.W.fnOf "_law_worth" "_law_worth" (defArgs s__law_worth) (defBody s__law_worth) (defScope s__law_worth) .none kV18 dc18 pm18 an18 cd18 ct18), sl18⟩) (c18 : PySem.W.codeIn K cd18 "_law_worth" = true) (k18 : PySem.W.keepIn K (.ref f18) = true)
    (a19 : PySem.W.nsIn K mainGlobals "_law_parted" = some (some (.ref f19))) (l19 : K.lookup f19 = some ⟨oc19, od19, .func (PySem.W.fnOf "_law_parted" "_law_parted" (defArgs s__law_parted) (defBody s__law_parted) (defScope s__law_parted) .none kV19 dc19 pm19 an19 cd19 ct19), sl19⟩) (c19 : PySem.W.codeIn K cd19 "_law_parted" = true) (k19 : PySem.W.keepIn K (.ref f19) = true)
    (a20 : PySem.W.nsIn K mainGlobals "_law_right" = some (some (.ref f20))) (l20 : K.lookup f20 = some ⟨oc20, od20, .func (PySem.W.fnOf "_law_right" "_law_right" (defArgs s__law_right) (defBody s__law_right) (defScope s__law_right) .none kV20 dc20 pm20 an20 cd20 ct20), sl20⟩) (c20 : PySem.W.codeIn K cd20 "_law_right" = true) (k20 : PySem.W.keepIn K (.ref f20) = true)
    (a21 : PySem.W.nsIn K mainGlobals "_law_sums_right" = some (some (.ref f21))) (l21 : K.lookup f21 = some ⟨oc21, od21, .func (PySem.W.fnOf "_law_sums_right" "_law_sums_right" (defArgs s__law_sums_right) (defBody s__law_sums_right) (defScope s__law_sums_right) .none kV21 dc21 pm21 an21 cd21 ct21), sl21⟩) (c21 : PySem.W.codeIn K cd21 "_law_sums_right" = true) (k21 : PySem.W.keepIn K (.ref f21) = true)
    (a22 : PySem.W.nsIn K mainGlobals "law" = some (some (.ref f22))) (l22 : K.lookup f22 = some ⟨oc22, od22, .func (PySem.W.fnOf "law" "law" (defArgs s_law) (defBody s_law) (defScope s_law) .none kV22 dc22 pm22 an22 cd22 ct22), sl22⟩) (c22 : PySem.W.codeIn K cd22 "law" = true) (k22 : PySem.W.keepIn K (.ref f22) = true)
    (a23 : PySem.W.nsIn K mainGlobals "ValueError" = some none)
    (a24 : PySem.W.nsIn K mainGlobals "abs" = some none)
    (a25 : PySem.W.nsIn K mainGlobals "bool" = some none)
    (a26 : PySem.W.nsIn K mainGlobals "enumerate" = some none)
    (a27 : PySem.W.nsIn K mainGlobals "int" = some none)
    (a28 : PySem.W.nsIn K mainGlobals "isinstance" = some none)
    (a29 : PySem.W.nsIn K mainGlobals "len" = some none)
    (a30 : PySem.W.nsIn K mainGlobals "list" = some none)
    (a31 : PySem.W.nsIn K mainGlobals "tuple" = some none)
    : Txt K mg :=
  ⟨⟨C_DearError, C_NoNumber, C_NoBook, C_NoTree, C_TooMany, C_NoCount, C_NoUndo, C_NoTurn, C_NoRow, C_Unknown, C_NoTongue, C_NoWants, C_NoThing, C_BadSign, C_NoText⟩,
   PySem.W.mg_of X G g_DearError,
   PySem.W.mg_of X G g_NoNumber,
   PySem.W.mg_of X G g_NoBook,
   PySem.W.mg_of X G g_NoTree,
   PySem.W.mg_of X G g_TooMany,
   PySem.W.mg_of X G g_NoCount,
   PySem.W.mg_of X G g_NoUndo,
   PySem.W.mg_of X G g_NoTurn,
   PySem.W.mg_of X G g_NoRow,
   PySem.W.mg_of X G g_Unknown,
   PySem.W.mg_of X G g_NoTongue,
   PySem.W.mg_of X G g_NoWants,
   PySem.W.mg_of X G g_NoThing,
   PySem.W.mg_of X G g_BadSign,
   PySem.W.mg_of X G g_NoText,
   ⟨PySem.W.mg_of X G g_NoNumber, x1_NoNumber, x2_NoNumber, x3_NoNumber, x4_NoNumber, ⟨x5_NoNumber, x6_NoNumber, x3_NoNumber, x7_NoNumber, x8_NoNumber, x9_NoNumber, x10_NoNumber, x11_NoNumber⟩⟩,
   kit_ref n_NoNumber_DearError i_DearError t_DearError q_NoNumber_DearError,
   kit_self,
   kit_ref n_NoNumber_NoBook i_NoBook t_NoBook q_NoNumber_NoBook,
   kit_ref n_NoNumber_NoTree i_NoTree t_NoTree q_NoNumber_NoTree,
   kit_ref n_NoNumber_TooMany i_TooMany t_TooMany q_NoNumber_TooMany,
   kit_ref n_NoNumber_NoCount i_NoCount t_NoCount q_NoNumber_NoCount,
   kit_ref n_NoNumber_NoUndo i_NoUndo t_NoUndo q_NoNumber_NoUndo,
   kit_ref n_NoNumber_NoTurn i_NoTurn t_NoTurn q_NoNumber_NoTurn,
   kit_ref n_NoNumber_NoRow i_NoRow t_NoRow q_NoNumber_NoRow,
   kit_ref n_NoNumber_Unknown i_Unknown t_Unknown q_NoNumber_Unknown,
   kit_ref n_NoNumber_NoTongue i_NoTongue t_NoTongue q_NoNumber_NoTongue,
   kit_ref n_NoNumber_NoWants i_NoWants t_NoWants q_NoNumber_NoWants,
   kit_ref n_NoNumber_NoThing i_NoThing t_NoThing q_NoNumber_NoThing,
   kit_ref n_NoNumber_BadSign i_BadSign t_BadSign q_NoNumber_BadSign,
   kit_ref n_NoNumber_NoText i_NoText t_NoText q_NoNumber_NoText,
   kit_val q_NoNumber_ValueError,
   exm_ref2 b_DearError i_DearError t_DearError q_NoNumber_DearError,
   ⟨f1, _, PySem.W.mg_of X G a1, fun_mk (st := s_is_whole) l1 c1 k1, (fun_mk (st := s_is_whole) l1 c1 k1).binds (ps := ["thing"]) fun _ _ _ _ _ _ us hl => match us, hl with | [_], _ => rfl⟩,
   ⟨f2, _, PySem.W.mg_of X G a2, fun_mk (st := s_divisor) l2 c2 k2, (fun_mk (st := s_divisor) l2 c2 k2).binds (ps := ["one", "other"]) fun _ _ _ _ _ _ us hl => match us, hl with | [_, _], _ => rfl⟩,
   ⟨f3, _, PySem.W.mg_of X G a3, fun_mk (st := s_lowest) l3 c3 k3, (fun_mk (st := s_lowest) l3 c3 k3).binds (ps := ["top", "bottom"]) fun _ _ _ _ _ _ us hl => match us, hl with | [_, _], _ => rfl⟩,
   dfD_mk (st := s_fraction) (PySem.W.mg_of X G a4) l4 c4 k4 d4 (.cons ⟨_, rfl⟩ (.nil)) (by simp) rfl rfl (fun _ _ _ _ _ _ _ us its h1 h2 => match us, its, h1, h2 with | [_], [_], _, _ => ⟨_, rfl, rfl⟩) (fun _ _ _ _ _ _ _ us its h1 h2 => match us, its, h1, h2 with | [_, _], [_], _, _ => ⟨_, rfl, rfl⟩),
   ⟨f5, _, PySem.W.mg_of X G a5, fun_mk (st := s_plus) l5 c5 k5, (fun_mk (st := s_plus) l5 c5 k5).binds (ps := ["one", "other"]) fun _ _ _ _ _ _ us hl => match us, hl with | [_, _], _ => rfl⟩,
   ⟨f6, _, PySem.W.mg_of X G a6, fun_mk (st := s_minus) l6 c6 k6, (fun_mk (st := s_minus) l6 c6 k6).binds (ps := ["one", "other"]) fun _ _ _ _ _ _ us hl => match us, hl with | [_, _], _ => rfl⟩,
   ⟨f7, _, PySem.W.mg_of X G a7, fun_mk (st := s_times) l7 c7 k7, (fun_mk (st := s_times) l7 c7 k7).binds (ps := ["one", "other"]) fun _ _ _ _ _ _ us hl => match us, hl with | [_, _], _ => rfl⟩,
   ⟨f8, _, PySem.W.mg_of X G a8, fun_mk (st := s_over) l8 c8 k8, (fun_mk (st := s_over) l8 c8 k8).binds (ps := ["one", "other"]) fun _ _ _ _ _ _ us hl => match us, hl with | [_, _], _ => rfl⟩,
   ⟨f9, _, PySem.W.mg_of X G a9, fun_mk (st := s_under) l9 c9 k9, (fun_mk (st := s_under) l9 c9 k9).binds (ps := ["one", "other"]) fun _ _ _ _ _ _ us hl => match us, hl with | [_, _], _ => rfl⟩,
   ⟨f10, _, PySem.W.mg_of X G a10, fun_mk (st := s_sum_of) l10 c10 k10, (fun_mk (st := s_sum_of) l10 c10 k10).binds (ps := ["some"]) fun _ _ _ _ _ _ us hl => match us, hl with | [_], _ => rfl⟩,
   ⟨f11, _, PySem.W.mg_of X G a11, fun_mk (st := s__law_source) l11 c11 k11, (fun_mk (st := s__law_source) l11 c11 k11).binds (ps := ["_law_cell_here", "_law_k"]) fun _ _ _ _ _ _ us hl => match us, hl with | [_, _], _ => rfl⟩,
   ⟨f12, _, PySem.W.mg_of X G a12, fun_mk (st := s__law_draw) l12 c12 k12, (fun_mk (st := s__law_draw) l12 c12 k12).binds (ps := ["_law_source_here", "_law_many"]) fun _ _ _ _ _ _ us hl => match us, hl with | [_, _], _ => rfl⟩,
   ⟨f13, _, PySem.W.mg_of X G a13, fun_mk (st := s__law_lowest) l13 c13 k13, (fun_mk (st := s__law_lowest) l13 c13 k13).binds (ps := ["_law_top", "_law_bottom"]) fun _ _ _ _ _ _ us hl => match us, hl with | [_, _], _ => rfl⟩,
   ⟨f14, _, PySem.W.mg_of X G a14, fun_mk (st := s__law_whole) l14 c14 k14, (fun_mk (st := s__law_whole) l14 c14 k14).binds (ps := ["_law_found"]) fun _ _ _ _ _ _ us hl => match us, hl with | [_], _ => rfl⟩,
   ⟨f15, _, PySem.W.mg_of X G a15, fun_mk (st := s__law_is_fraction) l15 c15 k15, (fun_mk (st := s__law_is_fraction) l15 c15 k15).binds (ps := ["_law_found"]) fun _ _ _ _ _ _ us hl => match us, hl with | [_], _ => rfl⟩,
   ⟨f16, _, PySem.W.mg_of X G a16, fun_mk (st := s__law_is_refusal) l16 c16 k16, (fun_mk (st := s__law_is_refusal) l16 c16 k16).binds (ps := ["_law_kept"]) fun _ _ _ _ _ _ us hl => match us, hl with | [_], _ => rfl⟩,
   ⟨f17, _, PySem.W.mg_of X G a17, fun_mk (st := s__law_drawn) l17 c17 k17, (fun_mk (st := s__law_drawn) l17 c17 k17).binds (ps := ["_law_source_here"]) fun _ _ _ _ _ _ us hl => match us, hl with | [_], _ => rfl⟩,
   ⟨f18, _, PySem.W.mg_of X G a18, fun_mk (st := s__law_worth) l18 c18 k18, (fun_mk (st := s__law_worth) l18 c18 k18).binds (ps := ["_law_found", "_law_top", "_law_bottom"]) fun _ _ _ _ _ _ us hl => match us, hl with | [_, _, _], _ => rfl⟩,
   ⟨f19, _, PySem.W.mg_of X G a19, fun_mk (st := s__law_parted) l19 c19 k19, (fun_mk (st := s__law_parted) l19 c19 k19).binds (ps := ["_law_one", "_law_other"]) fun _ _ _ _ _ _ us hl => match us, hl with | [_, _], _ => rfl⟩,
   ⟨f20, _, PySem.W.mg_of X G a20, fun_mk (st := s__law_right) l20 c20 k20, (fun_mk (st := s__law_right) l20 c20 k20).binds (ps := ["_law_one", "_law_other"]) fun _ _ _ _ _ _ us hl => match us, hl with | [_, _], _ => rfl⟩,
   ⟨f21, _, PySem.W.mg_of X G a21, fun_mk (st := s__law_sums_right) l21 c21 k21, (fun_mk (st := s__law_sums_right) l21 c21 k21).binds (ps := ["_law_some"]) fun _ _ _ _ _ _ us hl => match us, hl with | [_], _ => rfl⟩,
   ⟨f22, _, PySem.W.mg_of X G a22, fun_mk (st := s_law) l22 c22 k22, (fun_mk (st := s_law) l22 c22 k22).binds (ps := ["_law_script"]) fun _ _ _ _ _ _ us hl => match us, hl with | [_], _ => rfl⟩,
   PySem.W.mg_none_of X G a23,
   PySem.W.mg_none_of X G a24,
   PySem.W.mg_none_of X G a25,
   PySem.W.mg_none_of X G a26,
   PySem.W.mg_none_of X G a27,
   PySem.W.mg_none_of X G a28,
   PySem.W.mg_none_of X G a29,
   PySem.W.mg_none_of X G a30,
   PySem.W.mg_none_of X G a31⟩
end Dear


namespace Dear
open PySem PySem.Spec PyProof.Rows L2
section
variable {P : Program} {w : World} {K : PySem.W.Frag} {mg : Str → Option Value} {base : Heap}
theorem o__law_source (T : Txt K mg) : OkF P w K mg base CX0 1 "_law_source" ["_law_cell_here", "_law_k"] spSource := by
  refine T.f__law_source.ok c__law_source (fun vs H Q E h => ?_) (fun f cdv A outer s H vs Q E hr h => ?_)
  · obtain ⟨c, k, rfl, _⟩ := h
    rfl
  · obtain ⟨c, k, rfl, q⟩ := h
    refine ⟨_, (pss_cons (ps_set (i := 2) c__law_source.nd rfl (Or.inl rfl) (pe_callB call_abs (by rfl) T.b_abs (by decide +kernel) (pa_cons (pv 0) pa_nil)))
(pss_cons (ps_set (i := 3) c__law_source.nd rfl (Or.inl rfl) (pe_op op_mod (pe_op op_mul (pe_op op_add (pe_op op_add (pe_op op_mod (pv 2) pe_int) (pe_op op_mul pe_int (pv 1))) pe_int) pe_int) pe_int))
(pss_one (ps_ret (pe_lst (pa_cons (pe_op op_mul (pv 2) (pe_callTy call_int1 (by rfl) T.b_int (by decide +kernel) (pa_cons (pe_cmpR op_ge (pv 2) (pe_op op_pow pe_int pe_int) (nomark _)) pa_nil))) (pa_cons (pv 3) pa_nil))))))), ?_⟩
    refine ⟨_, rfl, _, rfl, ?_⟩
    refine ⟨_, rfl, _, _, rfl, rfl, (by show (0 : Int) < 1000003; decide), _, rfl, _, _, rfl, rfl, .inl ⟨by decide, by decide⟩, _, _, rfl, rfl, _, _, rfl, rfl, _, _, rfl, rfl, .inr ⟨by decide, by decide⟩, _, _, rfl, rfl, (by show (0 : Int) < 2147483647; decide), ?_⟩
    refine ⟨_, rfl, _, rfl, _, _, rfl, rfl, ⟨by decide, by decide, by decide⟩, _, _, rfl, rfl, .inr ⟨_, rfl, _, _, rfl, rfl, .inr (bit_lt _), _, rfl, (by show 2 ≤ sizeLine; decide), fun l hl => ?_⟩⟩
    · refine q l _ hl (Same.upd hl) ⟨_, _, upd_same, ?_, Int.emod_nonneg _ (by decide), Int.emod_lt_of_pos _ (by decide)⟩
      refine Int.mul_nonneg ?_ ?_
      · split <;> omega
      · exact bit_ge _
theorem o__law_draw (T : Txt K mg) : OkF P w K mg base CX0 1 "_law_draw" ["_law_source_here", "_law_many"] spDraw := by
  refine T.f__law_draw.ok c__law_draw (fun vs H Q E h => ?_) (fun f cdv A outer s H vs Q E hr h => ?_)
  · obtain ⟨l, m, rfl, _⟩ := h
    rfl
  · obtain ⟨l, m, rfl, ⟨n, z, h1, hn, hz, hz2⟩, hm, hm9, q⟩ := h
    refine ⟨_, (pss_cons (ps_if (pt_cmpR op_gt (pe_ix (ix_list_k K) (pv 0) pe_int (fun _ _ => rfl)) pe_int (nomark _))
(pss_cons (ps_set (i := 2) c__law_draw.nd rfl (Or.inl rfl) (pe_op op_mod (pe_ix (ix_list_k K) (pv 0) pe_int (fun _ _ => rfl)) (pv 1)))
(pss_cons (ps_asg (pe_op op_fdivW (pe_ix (ix_list_k K) (pv 0) pe_int (fun _ _ => rfl)) (pv 1)) (pg_sub (pv 0) pe_int set_list))
(pss_one (ps_ret (pv 2)))))
pss_nil)
(pss_cons (ps_asg (pe_op op_mod (pe_op op_add (pe_op op_mul (pe_ix (ix_list_k K) (pv 0) pe_int (fun _ _ => rfl)) pe_int) pe_int) pe_int) (pg_sub (pv 0) pe_int set_list))
(pss_one (ps_ret (pe_op op_mod (pe_op op_fdivW (pe_op op_mod (pe_op op_mul (pe_ix (ix_list_k K) (pv 0) pe_int (fun _ _ => rfl)) (pe_ix (ix_list_k K) (pv 0) pe_int (fun _ _ => rfl))) pe_int) pe_int) (pv 1)))))), ?_⟩
    refine ⟨_, rfl, _, _, _, _, rfl, rfl, SqL.of h1, rfl, _, _, rfl, rfl, _, rfl, itd (fun c => ?_) fun c => ?_⟩
    · refine ⟨_, rfl, _, _, _, _, rfl, rfl, SqL.of h1, rfl, _, rfl, _, _, rfl, rfl, hm, ?_⟩
      refine ⟨_, rfl, _, _, _, _, rfl, rfl, SqL.of h1, rfl, _, rfl, _, _, rfl, rfl, ⟨hm, hm9⟩, _, rfl, _, _, _, _, rfl, rfl, h1, rfl, ?_⟩
      refine ⟨_, rfl, ?_⟩
      exact q _ _ (Int.emod_nonneg _ (by omega)) (Int.emod_lt_of_pos _ hm) But.upd ⟨_, _, upd_same, Int.ediv_nonneg (by omega) (by omega), hz, hz2⟩
    · refine ⟨_, rfl, _, _, _, _, rfl, rfl, SqL.of h1, rfl, _, _, rfl, rfl, .inr ⟨by decide, by decide⟩, _, _, rfl, rfl, _, _, rfl, rfl, (by show (0 : Int) < 2147483647; decide), _, rfl, _, _, _, _, rfl, rfl, h1, rfl, ?_⟩
      have b0 : 0 ≤ (z * 48271 + 11) % 2147483647 := Int.emod_nonneg _ (by decide)
      have b1 : (z * 48271 + 11) % 2147483647 < 2147483647 := Int.emod_lt_of_pos _ (by decide)
      refine ⟨_, rfl, _, _, _, _, rfl, rfl, SqL.of upd_same, rfl, _, rfl, _, _, _, _, rfl, rfl, SqL.of upd_same, rfl, _, _, rfl, rfl, .inl ⟨by omega, by omega⟩, _, _, rfl, rfl, (by show (0 : Int) < 2147483629; decide), _, _, rfl, rfl, ⟨by decide, by decide⟩, _, rfl, _, _, rfl, rfl, hm, ?_⟩
      exact q _ _ (Int.emod_nonneg _ (by omega)) (Int.emod_lt_of_pos _ hm) But.upd ⟨_, _, upd_same, hn, b0, b1⟩
end
end Dear

namespace Dear
open PySem PySem.Spec PyProof.Rows L2
section
variable {P : Program} {w : World} {K : PySem.W.Frag} {mg : Str → Option Value} {base : Heap}
theorem o_is_whole (T : Txt K mg) : OkF P w K mg base CX0 1 "is_whole" ["thing"] spWhole := by
  refine T.f_is_whole.ok c_is_whole (fun vs H Q E h => ?_) (fun f cdv A outer s H vs Q E hr h => ?_)
  · obtain ⟨v, n, rfl, _⟩ := h
    rfl
  · obtain ⟨v, d, rfl, hI, k⟩ := h
    refine ⟨_, (pss_one (ps_ret (pe_and (pe_callB (call_isi_k K) (by rfl) T.b_isinstance (by decide +kernel) (pa_cons (pv 0) (pa_cons (pe_bltn (v := .ty "int") (by rfl) T.b_int (by decide +kernel) rfl) pa_nil))) (pe_one (pe_not (pe_callB (call_isi_k K) (by rfl) T.b_isinstance (by decide +kernel) (pa_cons (pv 0) (pa_cons (pe_bltn (v := .ty "bool") (by rfl) T.b_bool (by decide +kernel) rfl) pa_nil)))))))), ?_⟩
    refine ⟨_, rfl, _, _, _, _, _, rfl, .ty _, hI.ty, kit_ty (kd_int d), _, rfl, ?_⟩
    cases d with
    | int i => exact iteT ⟨_, rfl, _, _, _, _, _, rfl, .ty _, hI.ty, kit_ty (kd_bool _), _, rfl, k⟩
    | bl i => exact iteT ⟨_, rfl, _, _, _, _, _, rfl, .ty _, hI.ty, kit_ty (kd_bool _), _, rfl, k⟩
    | non => exact iteF k
    | str z => exact iteF k
    | lst z => exact iteF k
    | tup z => exact iteF k
    | dct => exact iteF k
theorem o_divisor (T : Txt K mg) : OkF P w K mg base CX0 1 "divisor" ["one", "other"] spDivisor := by
  refine T.f_divisor.ok c_divisor (fun vs H Q E h => ?_) (fun f cdv A outer s H vs Q E hr h => ?_)
  · obtain ⟨v, n, rfl, _⟩ := h
    rfl
  · obtain ⟨a, b, rfl, ha, hb, k⟩ := h
    refine ⟨_, (pss_cons (ps_while PassesOwn.never (pt_cmpR op_gt (pv 1) pe_int (nomark _))
(pss_one (ps_par (by rfl) c_divisor.nd (i := 0) (j := 1) rfl rfl (by decide) rfl rfl (pa_cons (pv 1) (pa_cons (pe_op op_mod (pv 0) (pv 1)) pa_nil)) (by rfl))))
(pss_one (ps_ret (pv 0)))), ?_⟩
    refine while_by (fun σ H' => H' = H ∧ ∃ x y : Int, σ = [some (.int x), some (.int y)] ∧ 0 ≤ x ∧ 0 ≤ y ∧ Int.gcd x y = Int.gcd a b) (fun σ _ => match σ with | [_, some (.int y)] => y.toNat | _ => 0) ⟨rfl, a, b, rfl, ha, hb, rfl⟩ ?_ ?_
    · rintro σ H' ⟨rfl, x, y, rfl, hx, hy, e⟩
      refine ⟨_, rfl, _, _, rfl, rfl, _, rfl, itd (fun c => ?_) fun c => ?_⟩
      · refine ⟨_, rfl, _, rfl, _, rfl, _, _, rfl, rfl, c, _, _, rfl, ⟨rfl, y, x % y, rfl, hy, Int.emod_nonneg _ (by omega), ?_⟩, ?_⟩
        · rw [gcd_step hx c]
          exact e
        · show (x % y).toNat < y.toNat
          have := Int.emod_lt_of_pos x c
          omega
      · have : y = 0 := by omega
        subst this
        refine ⟨_, rfl, ?_⟩
        rw [← e, Int.gcd_zero_right] at k
        have e2 : ((x.natAbs : Nat) : Int) = x := by omega
        rw [e2] at k
        exact k
    · rintro σ H Q Q' hq ⟨v, e1, i, j, e2, e3, x, e4, q⟩
      exact ⟨v, e1, i, j, e2, e3, x, e4, hq _ _ q⟩
end
end Dear

namespace Dear
open PySem PySem.Spec PyProof.Rows L2
section
variable {P : Program} {w : World} {K : PySem.W.Frag} {mg : Str → Option Value} {base : Heap}
theorem o__law_whole (T : Txt K mg) : OkF P w K mg base CX0 1 "_law_whole" ["_law_found"] spWhole := by
  refine T.f__law_whole.ok c__law_whole (fun vs H Q E h => ?_) (fun f cdv A outer s H vs Q E hr h => ?_)
  · obtain ⟨v, n, rfl, _⟩ := h
    rfl
  · obtain ⟨v, d, rfl, hI, k⟩ := h
    refine ⟨_, (pss_one (ps_ret (pe_and (pe_callB (call_isi_k K) (by rfl) T.b_isinstance (by decide +kernel) (pa_cons (pv 0) (pa_cons (pe_bltn (v := .ty "int") (by rfl) T.b_int (by decide +kernel) rfl) pa_nil))) (pe_one (pe_not (pe_callB (call_isi_k K) (by rfl) T.b_isinstance (by decide +kernel) (pa_cons (pv 0) (pa_cons (pe_bltn (v := .ty "bool") (by rfl) T.b_bool (by decide +kernel) rfl) pa_nil)))))))), ?_⟩
    refine ⟨_, rfl, _, _, _, _, _, rfl, .ty _, hI.ty, kit_ty (kd_int d), _, rfl, ?_⟩
    cases d with
    | int i => exact iteT ⟨_, rfl, _, _, _, _, _, rfl, .ty _, hI.ty, kit_ty (kd_bool _), _, rfl, k⟩
    | bl i => exact iteT ⟨_, rfl, _, _, _, _, _, rfl, .ty _, hI.ty, kit_ty (kd_bool _), _, rfl, k⟩
    | non => exact iteF k
    | str z => exact iteF k
    | lst z => exact iteF k
    | tup z => exact iteF k
    | dct => exact iteF k
theorem o__law_lowest (T : Txt K mg) : OkF P w K mg base CX0 1 "_law_lowest" ["_law_top", "_law_bottom"] spLowest := by
  refine T.f__law_lowest.ok c__law_lowest (fun vs H Q E h => ?_) (fun f cdv A outer s H vs Q E hr h => ?_)
  · obtain ⟨v, n, rfl, _⟩ := h
    rfl
  · obtain ⟨t, b, rfl, hb, hl, k⟩ := h
    refine ⟨_, (pss_cons (ps_set (i := 2) c__law_lowest.nd rfl (Or.inl rfl) (pv 1))
(pss_cons (ps_set (i := 3) c__law_lowest.nd rfl (Or.inl rfl) (pe_callB call_abs (by rfl) T.b_abs (by decide +kernel) (pa_cons (pv 0) pa_nil)))
(pss_cons (ps_while PassesOwn.never (pt_cmpR op_gt (pv 3) pe_int (nomark _))
(pss_one (ps_par (by rfl) c__law_lowest.nd (i := 2) (j := 3) rfl rfl (by decide) rfl rfl (pa_cons (pv 3) (pa_cons (pe_op op_mod (pv 2) (pv 3)) pa_nil)) (by rfl))))
(pss_one (ps_ret (pe_tup (pa_cons (pe_op op_fdivW (pv 0) (pv 2)) (pa_cons (pe_op op_fdivW (pv 1) (pv 2)) pa_nil)))))))), ?_⟩
    refine ⟨_, rfl, ?_⟩
    refine ⟨_, rfl, _, rfl, ?_⟩
    rw [abs_if]
    refine while_by (fun σ H' => H' = H ∧ ∃ x y : Int, σ = [some (.int t), some (.int b), some (.int x), some (.int y)] ∧ 0 ≤ x ∧ 0 ≤ y ∧ Int.gcd x y = Int.gcd b t) (fun σ _ => match σ with | [_, _, _, some (.int y)] => y.toNat | _ => 0) ⟨rfl, b, _, rfl, by omega, by omega, gcd_abs b t⟩ ?_ ?_
    · rintro σ H' ⟨rfl, x, y, rfl, hx, hy, e⟩
      refine ⟨_, rfl, _, _, rfl, rfl, _, rfl, itd (fun c => ?_) fun c => ?_⟩
      · refine ⟨_, rfl, _, rfl, _, rfl, _, _, rfl, rfl, c, _, _, rfl, ⟨rfl, y, x % y, rfl, hy, Int.emod_nonneg _ (by omega), ?_⟩, ?_⟩
        · rw [gcd_step hx c]
          exact e
        · show (x % y).toNat < y.toNat
          have := Int.emod_lt_of_pos x c
          omega
      · have : y = 0 := by omega
        subst this
        rw [Int.gcd_zero_right] at e
        have e2 : x = ((Int.gcd b t : Nat) : Int) := by omega
        subst e2
        refine ⟨_, rfl, _, rfl, _, _, rfl, rfl, ⟨gcd_pos t hb, gcd_log t hb hl⟩, _, rfl, _, rfl, _, _, rfl, rfl, ⟨gcd_pos t hb, gcd_log t hb hl⟩, (by show 2 ≤ sizeLine; decide), fun p hp => ?_⟩
        exact k p _ hp (Same.upd hp) upd_same
    · rintro σ H Q Q' hq ⟨v, e1, i, j, e2, e3, x, e4, q⟩
      exact ⟨v, e1, i, j, e2, e3, x, e4, hq _ _ q⟩
theorem eqv_two (a b c d : Int) : PyData.eqv (.tuple [.int a, .int b]) (.tuple [.int c, .int d]) = ((a == c) && (b == d)) := by
  simp [PyData.eqv, PyData.eqvAll]
theorem shaped_two (a b : Int) : SeqAt.shaped (.tuple [.int a, .int b]) = true := by
  simp [SeqAt.shaped, PyData.canLay0, PyData.canLayAll0, PyData.depth, PyData.depthAll]
theorem o__law_is_fraction (T : Txt K mg) : OkF P w K mg base CX0 2 "_law_is_fraction" ["_law_found"] spFr := by
  have o__law_whole := o__law_whole (P := P) (w := w) (base := base) T
  have o__law_lowest := o__law_lowest (P := P) (w := w) (base := base) T
  refine T.f__law_is_fraction.ok c__law_is_fraction (fun vs H Q E h => ?_) (fun f cdv A outer s H vs Q E hr h => ?_)
  · obtain ⟨v, n, rfl, _⟩ := h
    rfl
  · obtain ⟨v, d, rfl, hI, ok, k⟩ := h
    refine ⟨_, (pss_cons (ps_if (PW.pt (pw_or (pt_not (pt_val (pe_callB (call_isi_k K) (by rfl) T.b_isinstance (by decide +kernel) (pa_cons (pv 0) (pa_cons (pe_bltn (v := .ty "tuple") (by rfl) T.b_tuple (by decide +kernel) rfl) pa_nil))))) (pw_or (pt_cmpR op_ne (pe_callB (call_len_seq_k K) (by rfl) T.b_len PySem.boot_len (pa_cons (pv 0) pa_nil)) pe_int (nomark _)) (pw_or (pt_not (pt_val (pe_c o__law_whole hr (pa_cons (pe_ix (ix_tup_k K) (pv 0) pe_int (fun _ _ => rfl)) pa_nil)))) (pw_or1 (pt_not (pt_val (pe_c o__law_whole hr (pa_cons (pe_ix (ix_tup_k K) (pv 0) pe_int (fun _ _ => rfl)) pa_nil)))))))))
(pss_one (ps_ret pe_bl))
pss_nil)
(pss_one (ps_ret (pe_and (pe_cmpR op_gt (pe_ix (ix_tup_k K) (pv 0) pe_int (fun _ _ => rfl)) pe_int (nomark _)) (pe_one (pe_cmpR (op_eqD_k K hr.units) (pe_c o__law_lowest hr (pa_cons (pe_ix (ix_tup_k K) (pv 0) pe_int (fun _ _ => rfl)) (pa_cons (pe_ix (ix_tup_k K) (pv 0) pe_int (fun _ _ => rfl)) pa_nil))) (pv 0) (nomark _))))))), ?_⟩
    refine ⟨_, rfl, _, _, _, _, _, rfl, .ty _, hI.ty, kit_ty (kd_tuple d), _, rfl, ?_⟩
    have other : isTup d = false → isFr d = false := fun e => by
      cases d with
      | tup z => cases e
      | _ => rfl
    cases e : isTup d with
    | false =>
      rw [other e] at k
      exact iteT (k H (Same.refl H))
    | true =>
      refine iteF ?_
      cases hI with
      | tup ha hall =>
        rename_i a xs ds
        refine ⟨_, rfl, _, _, rfl, .inr (SqT.of ha), rfl, _, rfl, ?_⟩
        by_cases hl : xs.length = 2
        · have e2 : decide (V.int ((xs.length : Nat) : Int) = V.int 2) = true := by rw [hl]; decide
          rw [e2]
          refine iteF ?_
          match xs, ds, hall, hl with
          | [x, y], _, .cons (d := d1) h1 (.cons (d := d2) h2 .nil), _ =>
            refine ⟨_, rfl, _, _, _, _, rfl, rfl, SqT.of ha, rfl, _, _, rfl, h1, _, rfl, ?_⟩
            cases h1 with
            | int t =>
              refine iteF ⟨_, rfl, _, _, _, _, rfl, rfl, SqT.of ha, rfl, _, _, rfl, h2, _, rfl, ?_⟩
              cases h2 with
              | int b =>
                refine iteF ⟨_, rfl, _, _, _, _, rfl, rfl, SqT.of ha, rfl, _, _, rfl, rfl, _, rfl, itd (fun c => ?_) fun c => ?_⟩
                · have ob : b.natAbs < 2 ^ 300 := ok.2.1
                  refine ⟨_, rfl, _, _, _, _, rfl, rfl, SqT.of ha, rfl, _, rfl, _, _, _, _, rfl, rfl, SqT.of ha, rfl, t, b, rfl, c, log_small (by decide) ob (by decide), fun p H' hp S hH => ?_⟩
                  refine ⟨_, rfl, _, _, .tup (SqT.of hH) (.cons (.int _) (.cons (.int _) .nil)), .tup (SqT.of (S _ _ ha)) (.cons (.int _) (.cons (.int _) .nil)), shaped_two _ _, shaped_two _ _, ?_⟩
                  rw [eqv_two, low_eq c]
                  have e3 : isFr (.tup [.int t, .int b]) = (Int.gcd b t == 1) := by
                    show (decide (0 < b) && (Int.gcd b t == 1)) = _
                    rw [decide_eq_true c, Bool.true_and]
                  rw [e3] at k
                  exact k _ S
                · have e3 : isFr (.tup [.int t, .int b]) = false := by
                    show (decide (0 < b) && _) = false
                    rw [decide_eq_false (by omega), Bool.false_and]
                  rw [e3] at k
                  exact k H (Same.refl H)
              | _ => exact iteT (k H (Same.refl H))
            | _ => exact iteT (k H (Same.refl H))
        · have e2 : decide (V.int ((xs.length : Nat) : Int) = V.int 2) = false := by
            rw [dec_int]
            simp only [beq_eq_false_iff_ne, ne_eq]
            omega
          rw [e2]
          refine iteT ?_
          have e3 : isFr (.tup ds) = false := isFr_len (by rw [← hall.length]; exact hl)
          rw [e3] at k
          exact k H (Same.refl H)
      | non => cases e
      | bl _ => cases e
      | int _ => cases e
      | str _ => cases e
      | lst _ _ => cases e
      | dct _ => cases e
end
end Dear

namespace Dear
open PySem PySem.Spec PyProof.Rows L2
/-! ### fractions made of two whole numbers -/
theorem gcd_dvd_t (t b : Int) : (Int.gcd b t : Int) ∣ t := Int.gcd_dvd_right ..
theorem gcd_dvd_b (t b : Int) : (Int.gcd b t : Int) ∣ b := Int.gcd_dvd_left ..
theorem low_mul (t b : Int) (h : 0 < b) : lowT t b * (Int.gcd b t : Int) = t ∧ lowB t b * (Int.gcd b t : Int) = b := ⟨Int.ediv_mul_cancel (gcd_dvd_t t b), Int.ediv_mul_cancel (gcd_dvd_b t b)⟩
theorem low_fr (t b : Int) (h : 0 < b) : 0 < lowB t b ∧ Int.gcd (lowB t b) (lowT t b) = 1 := by
  have g := gcd_pos t h
  obtain ⟨e1, e2⟩ := low_mul t b h
  constructor
  · rcases Int.lt_or_le 0 (lowB t b) with z | z
    · exact z
    · have := Int.mul_nonpos_of_nonpos_of_nonneg z (Int.le_of_lt g)
      omega
  · have g' : 0 < Nat.gcd b.natAbs t.natAbs := by
      have : ((Int.gcd b t : Nat) : Int) = ((Nat.gcd b.natAbs t.natAbs : Nat) : Int) := rfl
      omega
    have n1 : (lowT t b).natAbs = t.natAbs / Nat.gcd b.natAbs t.natAbs := by
      have := congrArg Int.natAbs e1
      rw [Int.natAbs_mul] at this
      have e : ((Int.gcd b t : Nat) : Int).natAbs = Nat.gcd b.natAbs t.natAbs := Int.natAbs_natCast _
      rw [e] at this
      exact (Nat.div_eq_of_eq_mul_left g' this.symm).symm
    have n2 : (lowB t b).natAbs = b.natAbs / Nat.gcd b.natAbs t.natAbs := by
      have := congrArg Int.natAbs e2
      rw [Int.natAbs_mul] at this
      have e : ((Int.gcd b t : Nat) : Int).natAbs = Nat.gcd b.natAbs t.natAbs := Int.natAbs_natCast _
      rw [e] at this
      exact (Nat.div_eq_of_eq_mul_left g' this.symm).symm
    show Nat.gcd (lowB t b).natAbs (lowT t b).natAbs = 1
    rw [n1, n2, Nat.gcd_div (Nat.gcd_dvd_left _ _) (Nat.gcd_dvd_right _ _)]
    exact Nat.div_self g'
theorem low_small (t b : Int) (h : 0 < b) : (lowT t b).natAbs ≤ t.natAbs ∧ (lowB t b).natAbs ≤ b.natAbs := by
  have g := gcd_pos t h
  obtain ⟨e1, e2⟩ := low_mul t b h
  have key : ∀ x y : Int, x * (Int.gcd b t : Int) = y → x.natAbs ≤ y.natAbs := fun x y e => by
    rw [← e, Int.natAbs_mul]
    exact Nat.le_mul_of_pos_right _ (by omega)
  exact ⟨key _ _ e1, key _ _ e2⟩
/-- worth the two crosswise -/
theorem low_cross (t b : Int) (h : 0 < b) : lowT t b * b = t * lowB t b := by
  obtain ⟨e1, e2⟩ := low_mul t b h
  have a : lowT t b * b = lowT t b * (lowB t b * (Int.gcd b t : Int)) := by rw [e2]
  have c : t * lowB t b = lowT t b * (Int.gcd b t : Int) * lowB t b := by rw [e1]
  rw [a, c, Int.mul_assoc, Int.mul_comm (Int.gcd b t : Int)]
def frT (t b : Int) : Int := if b < 0 then lowT (0 - t) (0 - b) else lowT t b
def frB (t b : Int) : Int := if b < 0 then lowB (0 - t) (0 - b) else lowB t b
theorem fr_cross {t b : Int} (h : b ≠ 0) : frT t b * b = t * frB t b := by
  unfold frT frB
  by_cases c : b < 0
  · rw [if_pos c, if_pos c]
    have := low_cross (0 - t) (0 - b) (by omega)
    generalize lowT (0 - t) (0 - b) = x at this ⊢
    generalize lowB (0 - t) (0 - b) = y at this ⊢
    rw [Int.mul_sub, Int.sub_mul, Int.mul_zero, Int.zero_mul, Int.zero_sub, Int.zero_sub] at this
    exact Int.neg_inj.mp this
  · rw [if_neg c, if_neg c]
    exact low_cross t b (by omega)
theorem fr_fr {t b : Int} (h : b ≠ 0) : isFr (.tup [.int (frT t b), .int (frB t b)]) = true := by
  show (decide (0 < frB t b) && (Int.gcd (frB t b) (frT t b) == 1)) = true
  unfold frT frB
  by_cases c : b < 0
  · obtain ⟨h1, h2⟩ := low_fr (0 - t) (0 - b) (by omega)
    rw [if_pos c, if_pos c, decide_eq_true h1, h2]
    rfl
  · obtain ⟨h1, h2⟩ := low_fr t b (by omega)
    rw [if_neg c, if_neg c, decide_eq_true h1, h2]
    rfl
theorem fr_small {t b : Int} (h : b ≠ 0) : (frT t b).natAbs ≤ t.natAbs ∧ (frB t b).natAbs ≤ b.natAbs := by
  unfold frT frB
  by_cases c : b < 0
  · obtain ⟨h1, h2⟩ := low_small (0 - t) (0 - b) (by omega)
    rw [if_pos c, if_pos c]
    omega
  · rw [if_neg c, if_neg c]
    exact low_small t b (by omega)
/-- two whole numbers, the second not 0 -/
def twoOk : D → D → Bool
  | .int _, .int b => !decide (b = 0)
  | _, _ => false
/-- fraction(top, bottom): a new tuple, or a refusal of the class at C -/
def spFraction (C : Addr) : Sp := fun vs H Q E => ∃ (v1 v2 : V) (d1 d2 : D), vs = [v1, v2] ∧ Dt H v1 d1 ∧ Dt H v2 d2 ∧ Ok d2 ∧
  (∀ t b : Int, d1 = .int t → d2 = .int b → b ≠ 0 → ∀ (p : Addr) (H' : Hp), H p = none → Same H H' → H' p = some (.tup [.int (frT t b), .int (frB t b)]) → Q (.ref p) H') ∧
  (twoOk d1 d2 = false → E (.ref C) none H)
section
variable {P : Program} {w : World} {K : PySem.W.Frag} {mg : Str → Option Value} {base : Heap}
theorem o_lowest (T : Txt K mg) : OkF P w K mg base CX0 2 "lowest" ["top", "bottom"] spLowest := by
  have o_divisor := o_divisor (P := P) (w := w) (base := base) T
  refine T.f_lowest.ok c_lowest (fun vs H Q E h => ?_) (fun f cdv A outer s H vs Q E hr h => ?_)
  · obtain ⟨v, n, rfl, _⟩ := h
    rfl
  · obtain ⟨t, b, rfl, hb, hl, k⟩ := h
    refine ⟨_, (pss_cons (ps_set (i := 2) c_lowest.nd rfl (Or.inl rfl) (pe_c o_divisor hr (pa_cons (pv 1) (pa_cons (pe_callB call_abs (by rfl) T.b_abs (by decide +kernel) (pa_cons (pv 0) pa_nil)) pa_nil))))
(pss_one (ps_ret (pe_tup (pa_cons (pe_op op_fdivW (pv 0) (pv 2)) (pa_cons (pe_op op_fdivW (pv 1) (pv 2)) pa_nil)))))), ?_⟩
    refine ⟨_, rfl, _, rfl, _, rfl, _, _, rfl, by omega, ?_, ?_⟩
    · split <;> omega
    · rw [abs_if, gcd_abs]
      refine ⟨_, rfl, _, rfl, _, _, rfl, rfl, ⟨gcd_pos t hb, gcd_log t hb hl⟩, _, rfl, _, rfl, _, _, rfl, rfl, ⟨gcd_pos t hb, gcd_log t hb hl⟩, (by show 2 ≤ sizeLine; decide), fun p hp => ?_⟩
      exact k p _ hp (Same.upd hp) upd_same
theorem o_fraction (T : Txt K mg) : OkD P w K mg base (L2.CX P w) 3 "fraction" ["top", "bottom"] [.int 1] (spFraction T.A.NoNumber) := by
  have o_is_whole := o_is_whole (P := P) (w := w) (base := base) T
  have o_lowest := o_lowest (P := P) (w := w) (base := base) T
  refine T.f_fraction.ok c_fraction (fun vs H Q E h => ?_) (fun f cdv A outer s H vs Q E hr h => ?_)
  · obtain ⟨v1, v2, d1, d2, rfl, _⟩ := h
    rfl
  · obtain ⟨v1, v2, d1, d2, rfl, h1, h2, ok2, k, kE⟩ := h
    refine ⟨_, (pss_cons (ps_if (PW.pt (pw_or (pt_not (pt_val (pe_c o_is_whole hr (pa_cons (pv 0) pa_nil)))) (pw_or (pt_not (pt_val (pe_c o_is_whole hr (pa_cons (pv 1) pa_nil)))) (pw_or1 (pt_cmpR op_eq (pv 1) pe_int (nomark _))))))
(pss_one (ps_raise rfl (takes_of rfl rfl rfl rfl) (pmk_own PySem.F.excBase_ValueError T.X_NoNumber.x T.X_NoNumber.g T.X_NoNumber.k (raises_own T.X_NoNumber.b T.X_NoNumber.t) rfl)))
pss_nil)
(pss_cons (ps_if (pt_cmpR op_lt (pv 1) pe_int (nomark _))
(pss_one (ps_ret (pe_c o_lowest hr (pa_cons (pe_op op_sub pe_int (pv 0)) (pa_cons (pe_op op_sub pe_int (pv 1)) pa_nil)))))
pss_nil)
(pss_one (ps_ret (pe_c o_lowest hr (pa_cons (pv 0) (pa_cons (pv 1) pa_nil))))))), ?_⟩
    refine ⟨_, rfl, _, _, rfl, h1, _, rfl, ?_⟩
    cases h1 with
    | int t =>
      refine iteF ⟨_, rfl, _, _, rfl, h2, _, rfl, ?_⟩
      cases h2 with
      | int b =>
        refine iteF ⟨_, rfl, rfl, _, rfl, ?_⟩
        rw [dec_int]
        by_cases c : b = 0
        · have e : (b == 0) = true := by simpa using c
          rw [e]
          refine iteT (kE ?_)
          show (!decide (b = 0)) = false
          rw [decide_eq_true c]
          rfl
        · have e : (b == 0) = false := by simpa using c
          rw [e]
          refine iteF ?_
          have kk := k t b rfl rfl c
          have bl : b.natAbs < 2 ^ 300 := ok2
          refine ⟨_, rfl, _, _, rfl, rfl, _, rfl, itd (fun c1 => ?_) fun c1 => ?_⟩
          · refine ⟨_, rfl, _, _, rfl, rfl, _, rfl, _, _, rfl, rfl, 0 - t, 0 - b, rfl, by omega, log_small (n := 300) (by decide) (by omega) (by decide), fun p H' hp s' h' => kk p H' hp s' ?_⟩
            unfold frT frB
            rw [if_pos c1, if_pos c1]
            exact h'
          · refine ⟨_, rfl, _, rfl, t, b, rfl, by omega, log_small (n := 300) (by decide) bl (by decide), fun p H' hp s' h' => kk p H' hp s' ?_⟩
            unfold frT frB
            rw [if_neg c1, if_neg c1]
            exact h'
      | _ => exact iteT (kE rfl)
    | _ => exact iteT (kE (by cases d2 <;> rfl))
end
end Dear

namespace Dear
open PySem PySem.Spec PyProof.Rows L2
/-! ### fractions reckoned -/
/-- a fraction at p: two whole numbers below 2 ^ n, the second above 0 -/
structure Fq (H : Hp) (p : Addr) (x : Int × Int) (n : Nat) : Prop where
  at_ : H p = some (.tup [.int x.1, .int x.2])
  pos : 0 < x.2
  t : x.1.natAbs < 2 ^ n
  b : x.2.natAbs < 2 ^ n
theorem Fq.same {H H' : Hp} {p : Addr} {x : Int × Int} {n : Nat} (f : Fq H p x n) (s : Same H H') : Fq H' p x n := ⟨s _ _ f.at_, f.pos, f.t, f.b⟩
theorem Fq.mono {H : Hp} {p : Addr} {x : Int × Int} {n m : Nat} (f : Fq H p x n) (h : n ≤ m) : Fq H p x m :=
  ⟨f.at_, f.pos, Nat.lt_of_lt_of_le f.t (Nat.pow_le_pow_right (by decide) h), Nat.lt_of_lt_of_le f.b (Nat.pow_le_pow_right (by decide) h)⟩
def lowF (t b : Int) : Int × Int := (lowT t b, lowB t b)
theorem low_lt {t b : Int} {n : Nat} (h : 0 < b) (ht : t.natAbs < 2 ^ n) (hb : b.natAbs < 2 ^ n) : 0 < (lowF t b).2 ∧ (lowF t b).1.natAbs < 2 ^ n ∧ (lowF t b).2.natAbs < 2 ^ n := by
  obtain ⟨h1, h2⟩ := low_small t b h
  exact ⟨(low_fr t b h).1, Nat.lt_of_le_of_lt h1 ht, Nat.lt_of_le_of_lt h2 hb⟩
theorem add_lt {a b : Int} {n : Nat} (ha : a.natAbs < 2 ^ n) (hb : b.natAbs < 2 ^ n) : (a + b).natAbs < 2 ^ (n + 1) := by
  rw [Nat.pow_succ]
  omega
theorem sub_lt {a b : Int} {n : Nat} (ha : a.natAbs < 2 ^ n) (hb : b.natAbs < 2 ^ n) : (a - b).natAbs < 2 ^ (n + 1) := by
  rw [Nat.pow_succ]
  omega
theorem up_lt {a : Int} {n m : Nat} (ha : a.natAbs < 2 ^ n) (h : n ≤ m) : a.natAbs < 2 ^ m := Nat.lt_of_lt_of_le ha (Nat.pow_le_pow_right (by decide) h)
/-- the tops of the three -/
def plusT (x y : Int × Int) : Int := x.1 * y.2 + y.1 * x.2
def minusT (x y : Int × Int) : Int := x.1 * y.2 - y.1 * x.2
def timesT (x y : Int × Int) : Int := x.1 * y.1
def bots (x y : Int × Int) : Int := x.2 * y.2
def addF (x y : Int × Int) : Int × Int := lowF (plusT x y) (bots x y)
def sumF (l : List (Int × Int)) : Int × Int := l.foldl addF (0, 1)
/-- lowest of f and the bottoms' product -/
def spBin (f : Int × Int → Int × Int → Int) : Sp := fun vs H Q _ => ∃ (p q : Addr) (x y : Int × Int) (n : Nat), vs = [.ref p, .ref q] ∧ Fq H p x n ∧ Fq H q y n ∧ 0 < n ∧ n ≤ 4000 ∧
  ∀ (r : Addr) (H' : Hp), H r = none → Same H H' → H' r = some (.tup [.int (lowT (f x y) (bots x y)), .int (lowB (f x y) (bots x y))]) → Q (.ref r) H'
def spOver (C : Addr) : Sp := fun vs H Q E => ∃ (p q : Addr) (x y : Int × Int), vs = [.ref p, .ref q] ∧ Fq H p x 100 ∧ Fq H q y 100 ∧
  (y.1 ≠ 0 → ∀ (r : Addr) (H' : Hp), H r = none → Same H H' → H' r = some (.tup [.int (frT (x.1 * y.2) (x.2 * y.1)), .int (frB (x.1 * y.2) (x.2 * y.1))]) → Q (.ref r) H') ∧
  (y.1 = 0 → E (.ref C) none H)
def spUnder : Sp := fun vs H Q _ => ∃ (p q : Addr) (x y : Int × Int) (n : Nat), vs = [.ref p, .ref q] ∧ Fq H p x n ∧ Fq H q y n ∧ 0 < n ∧ n ≤ 4000 ∧ Q (.bl (decide (x.1 * y.2 < y.1 * x.2))) H
def frD (x : Int × Int) : D := .tup [.int x.1, .int x.2]
def smallF (n : Nat) (x : Int × Int) : Prop := 0 < x.2 ∧ x.1.natAbs < 2 ^ n ∧ x.2.natAbs < 2 ^ n
theorem Fq.of {H : Hp} {v : V} {x : Int × Int} {n : Nat} (h : Dt H v (frD x)) (s : smallF n x) : ∃ p, v = .ref p ∧ Fq H p x n := by
  cases h with
  | tup ha hall =>
    cases hall with
    | cons h1 hall =>
      cases hall with
      | cons h2 hall =>
        cases hall
        cases h1
        cases h2
        exact ⟨_, rfl, ha, s.1, s.2.1, s.2.2⟩
theorem Fq.dt {H : Hp} {p : Addr} {x : Int × Int} {n : Nat} (f : Fq H p x n) : Dt H (.ref p) (frD x) := .tup f.at_ (.cons (.int _) (.cons (.int _) .nil))
theorem addF_small {x y : Int × Int} {n m : Nat} (hx : smallF n x) (hy : smallF m y) : smallF (n + m + 1) (addF x y) :=
  low_lt (Int.mul_pos hx.1 hy.1) (add_lt (wide_lt hx.2.1 hy.2.2) (by rw [Nat.add_comm n m]; exact wide_lt hy.2.1 hx.2.2)) (up_lt (wide_lt hx.2.2 hy.2.2) (by omega))
theorem sum_small {l : List (Int × Int)} (h : ∀ x ∈ l, smallF 100 x) : ∀ k, smallF (1 + 101 * k) (sumF (l.take k))
  | 0 => (show smallF 1 (0, 1) from ⟨by decide, by decide, by decide⟩)
  | k + 1 => by
    have ih := sum_small h k
    rw [List.take_add_one]
    cases e : l[k]? with
    | none =>
      rw [Option.toList_none, List.append_nil]
      exact ⟨ih.1, up_lt ih.2.1 (by omega), up_lt ih.2.2 (by omega)⟩
    | some x =>
      rw [Option.toList_some]
      show smallF _ (List.foldl addF (0, 1) (l.take k ++ [x]))
      rw [List.foldl_append]
      have := addF_small ih (h x (List.mem_of_getElem? e))
      have e2 : 1 + 101 * k + 100 + 1 = 1 + 101 * (k + 1) := by omega
      rw [e2] at this
      exact this
def spSumOf : Sp := fun vs H Q _ => ∃ (l : Addr) (xs : List V) (ps : List (Int × Int)), vs = [.ref l] ∧ H l = some (.lst xs) ∧ DtAll H xs (ps.map frD) ∧ (∀ x ∈ ps, smallF 100 x) ∧ ps.length ≤ 30 ∧
  ∀ (r : Addr) (H' : Hp), H r = none → Same H H' → H' r = some (.tup [.int (sumF ps).1, .int (sumF ps).2]) → Q (.ref r) H'
section
variable {P : Program} {w : World} {K : PySem.W.Frag} {mg : Str → Option Value} {base : Heap}
theorem o_plus (T : Txt K mg) : OkF P w K mg base CX0 3 "plus" ["one", "other"] (spBin plusT) := by
  have o_lowest := o_lowest (P := P) (w := w) (base := base) T
  refine T.f_plus.ok c_plus (fun vs H Q E h => ?_) (fun f cdv A outer s H vs Q E hr h => ?_)
  · obtain ⟨p, q, x, y, n, rfl, _⟩ := h
    rfl
  · obtain ⟨p, q, x, y, n, rfl, fx, fy, n0, n4, k⟩ := h
    refine ⟨_, (pss_one (ps_ret (pe_c o_lowest hr (pa_cons (pe_op op_add (pe_op op_mulW (pe_ix (ix_tup_k K) (pv 0) pe_int (fun _ _ => rfl)) (pe_ix (ix_tup_k K) (pv 1) pe_int (fun _ _ => rfl))) (pe_op op_mulW (pe_ix (ix_tup_k K) (pv 1) pe_int (fun _ _ => rfl)) (pe_ix (ix_tup_k K) (pv 0) pe_int (fun _ _ => rfl)))) (pa_cons (pe_op op_mulW (pe_ix (ix_tup_k K) (pv 0) pe_int (fun _ _ => rfl)) (pe_ix (ix_tup_k K) (pv 1) pe_int (fun _ _ => rfl))) pa_nil))))), ?_⟩
    refine ⟨_, rfl, _, _, _, _, rfl, rfl, SqT.of fx.at_, rfl, _, rfl, _, _, _, _, rfl, rfl, SqT.of fy.at_, rfl, _, _, rfl, rfl, wide_mul fx.t fy.b n0 n0 (by omega), ?_⟩
    refine ⟨_, rfl, _, _, _, _, rfl, rfl, SqT.of fy.at_, rfl, _, rfl, _, _, _, _, rfl, rfl, SqT.of fx.at_, rfl, _, _, rfl, rfl, wide_mul fy.t fx.b n0 n0 (by omega), _, _, rfl, rfl, ?_⟩
    refine ⟨_, rfl, _, _, _, _, rfl, rfl, SqT.of fx.at_, rfl, _, rfl, _, _, _, _, rfl, rfl, SqT.of fy.at_, rfl, _, _, rfl, rfl, wide_mul fx.b fy.b n0 n0 (by omega), ?_⟩
    exact ⟨_, _, rfl, Int.mul_pos fx.pos fy.pos, log_small (n := n + n) (by omega) (wide_lt fx.b fy.b) (by omega), k⟩
theorem o_minus (T : Txt K mg) : OkF P w K mg base CX0 3 "minus" ["one", "other"] (spBin minusT) := by
  have o_lowest := o_lowest (P := P) (w := w) (base := base) T
  refine T.f_minus.ok c_minus (fun vs H Q E h => ?_) (fun f cdv A outer s H vs Q E hr h => ?_)
  · obtain ⟨p, q, x, y, n, rfl, _⟩ := h
    rfl
  · obtain ⟨p, q, x, y, n, rfl, fx, fy, n0, n4, k⟩ := h
    refine ⟨_, (pss_one (ps_ret (pe_c o_lowest hr (pa_cons (pe_op op_sub (pe_op op_mulW (pe_ix (ix_tup_k K) (pv 0) pe_int (fun _ _ => rfl)) (pe_ix (ix_tup_k K) (pv 1) pe_int (fun _ _ => rfl))) (pe_op op_mulW (pe_ix (ix_tup_k K) (pv 1) pe_int (fun _ _ => rfl)) (pe_ix (ix_tup_k K) (pv 0) pe_int (fun _ _ => rfl)))) (pa_cons (pe_op op_mulW (pe_ix (ix_tup_k K) (pv 0) pe_int (fun _ _ => rfl)) (pe_ix (ix_tup_k K) (pv 1) pe_int (fun _ _ => rfl))) pa_nil))))), ?_⟩
    refine ⟨_, rfl, _, _, _, _, rfl, rfl, SqT.of fx.at_, rfl, _, rfl, _, _, _, _, rfl, rfl, SqT.of fy.at_, rfl, _, _, rfl, rfl, wide_mul fx.t fy.b n0 n0 (by omega), ?_⟩
    refine ⟨_, rfl, _, _, _, _, rfl, rfl, SqT.of fy.at_, rfl, _, rfl, _, _, _, _, rfl, rfl, SqT.of fx.at_, rfl, _, _, rfl, rfl, wide_mul fy.t fx.b n0 n0 (by omega), _, _, rfl, rfl, ?_⟩
    refine ⟨_, rfl, _, _, _, _, rfl, rfl, SqT.of fx.at_, rfl, _, rfl, _, _, _, _, rfl, rfl, SqT.of fy.at_, rfl, _, _, rfl, rfl, wide_mul fx.b fy.b n0 n0 (by omega), ?_⟩
    exact ⟨_, _, rfl, Int.mul_pos fx.pos fy.pos, log_small (n := n + n) (by omega) (wide_lt fx.b fy.b) (by omega), k⟩
theorem o_times (T : Txt K mg) : OkF P w K mg base CX0 3 "times" ["one", "other"] (spBin timesT) := by
  have o_lowest := o_lowest (P := P) (w := w) (base := base) T
  refine T.f_times.ok c_times (fun vs H Q E h => ?_) (fun f cdv A outer s H vs Q E hr h => ?_)
  · obtain ⟨p, q, x, y, n, rfl, _⟩ := h
    rfl
  · obtain ⟨p, q, x, y, n, rfl, fx, fy, n0, n4, k⟩ := h
    refine ⟨_, (pss_one (ps_ret (pe_c o_lowest hr (pa_cons (pe_op op_mulW (pe_ix (ix_tup_k K) (pv 0) pe_int (fun _ _ => rfl)) (pe_ix (ix_tup_k K) (pv 1) pe_int (fun _ _ => rfl))) (pa_cons (pe_op op_mulW (pe_ix (ix_tup_k K) (pv 0) pe_int (fun _ _ => rfl)) (pe_ix (ix_tup_k K) (pv 1) pe_int (fun _ _ => rfl))) pa_nil))))), ?_⟩
    refine ⟨_, rfl, _, _, _, _, rfl, rfl, SqT.of fx.at_, rfl, _, rfl, _, _, _, _, rfl, rfl, SqT.of fy.at_, rfl, _, _, rfl, rfl, wide_mul fx.t fy.t n0 n0 (by omega), ?_⟩
    refine ⟨_, rfl, _, _, _, _, rfl, rfl, SqT.of fx.at_, rfl, _, rfl, _, _, _, _, rfl, rfl, SqT.of fy.at_, rfl, _, _, rfl, rfl, wide_mul fx.b fy.b n0 n0 (by omega), ?_⟩
    exact ⟨_, _, rfl, Int.mul_pos fx.pos fy.pos, log_small (n := n + n) (by omega) (wide_lt fx.b fy.b) (by omega), k⟩
theorem o_over (T : Txt K mg) : OkF P w K mg base (L2.CX P w) 4 "over" ["one", "other"] (spOver T.A.NoNumber) := by
  have o_fraction := o_fraction (P := P) (w := w) (base := base) T
  refine T.f_over.okX c_over (fun vs H Q E h => ?_) (fun f cdv A outer s H vs Q E hr h => ?_)
  · obtain ⟨p, q, x, y, rfl, _⟩ := h
    rfl
  · obtain ⟨p, q, x, y, rfl, fx, fy, k, kE⟩ := h
    refine ⟨_, (pss_cons (ps_if (pt_cmpR op_eq (pe_ix (ix_tup_k K) (pv 1) pe_int (fun _ _ => rfl)) pe_int (nomark _))
(pss_one (ps_raise rfl (takes_of rfl rfl rfl rfl) (pmk_own PySem.F.excBase_ValueError T.X_NoNumber.x T.X_NoNumber.g T.X_NoNumber.k (raises_own T.X_NoNumber.b T.X_NoNumber.t) rfl)))
pss_nil)
(pss_one (ps_ret (pe_cxn o_fraction hr (takes_of rfl rfl rfl rfl) (pa_cons (pe_op op_mulW (pe_ix (ix_tup_k K) (pv 0) pe_int (fun _ _ => rfl)) (pe_ix (ix_tup_k K) (pv 1) pe_int (fun _ _ => rfl))) (pa_cons (pe_op op_mulW (pe_ix (ix_tup_k K) (pv 0) pe_int (fun _ _ => rfl)) (pe_ix (ix_tup_k K) (pv 1) pe_int (fun _ _ => rfl))) pa_nil)))))), ?_⟩
    refine ⟨_, rfl, _, _, _, _, rfl, rfl, SqT.of fy.at_, rfl, rfl, _, rfl, ?_⟩
    rw [dec_int]
    by_cases c : y.1 = 0
    · rw [show (y.1 == 0) = true by simpa using c]
      exact iteT (kE c)
    · rw [show (y.1 == 0) = false by simpa using c]
      refine iteF ?_
      refine ⟨_, rfl, _, _, _, _, rfl, rfl, SqT.of fx.at_, rfl, _, rfl, _, _, _, _, rfl, rfl, SqT.of fy.at_, rfl, _, _, rfl, rfl, wide_mul fx.t fy.b (by decide) (by decide) (by decide), ?_⟩
      refine ⟨_, rfl, _, _, _, _, rfl, rfl, SqT.of fx.at_, rfl, _, rfl, _, _, _, _, rfl, rfl, SqT.of fy.at_, rfl, _, _, rfl, rfl, wide_mul fx.b fy.t (by decide) (by decide) (by decide), ?_⟩
      have nz : x.2 * y.1 ≠ 0 := Int.mul_ne_zero (by have := fx.pos; omega) c
      refine ⟨_, _, _, _, rfl, .int _, .int _, up_lt (wide_lt fx.b fy.t) (by decide), ?_, ?_⟩
      · intro t b e1 e2 _
        cases e1
        cases e2
        exact k c
      · intro e
        have e : (!decide (x.2 * y.1 = 0)) = false := e
        rw [decide_eq_false nz] at e
        cases e
theorem o_under (T : Txt K mg) : OkF P w K mg base CX0 1 "under" ["one", "other"] spUnder := by
  refine T.f_under.ok c_under (fun vs H Q E h => ?_) (fun f cdv A outer s H vs Q E hr h => ?_)
  · obtain ⟨p, q, x, y, n, rfl, _⟩ := h
    rfl
  · obtain ⟨p, q, x, y, n, rfl, fx, fy, n0, n4, k⟩ := h
    refine ⟨_, (pss_one (ps_ret (pe_cmpR op_lt (pe_op op_mulW (pe_ix (ix_tup_k K) (pv 0) pe_int (fun _ _ => rfl)) (pe_ix (ix_tup_k K) (pv 1) pe_int (fun _ _ => rfl))) (pe_op op_mulW (pe_ix (ix_tup_k K) (pv 1) pe_int (fun _ _ => rfl)) (pe_ix (ix_tup_k K) (pv 0) pe_int (fun _ _ => rfl))) (nomark _)))), ?_⟩
    refine ⟨_, rfl, _, _, _, _, rfl, rfl, SqT.of fx.at_, rfl, _, rfl, _, _, _, _, rfl, rfl, SqT.of fy.at_, rfl, _, _, rfl, rfl, wide_mul fx.t fy.b n0 n0 (by omega), ?_⟩
    refine ⟨_, rfl, _, _, _, _, rfl, rfl, SqT.of fy.at_, rfl, _, rfl, _, _, _, _, rfl, rfl, SqT.of fx.at_, rfl, _, _, rfl, rfl, wide_mul fy.t fx.b n0 n0 (by omega), ?_⟩
    exact ⟨_, _, rfl, rfl, k⟩
theorem o_sum_of (T : Txt K mg) : OkF P w K mg base CX0 4 "sum_of" ["some"] spSumOf := by
  have o_plus := o_plus (P := P) (w := w) (base := base) T
  refine T.f_sum_of.ok c_sum_of (fun vs H Q E h => ?_) (fun f cdv A outer s H vs Q E hr h => ?_)
  · obtain ⟨l, xs, ps, rfl, _⟩ := h
    rfl
  · obtain ⟨l, xs, ps, rfl, hl, hd, hs, hn, k⟩ := h
    refine ⟨_, (pss_cons (ps_set (i := 1) c_sum_of.nd rfl (Or.inl rfl) (pe_tup (pa_cons pe_int (pa_cons pe_int pa_nil))))
(pss_cons (ps_for PassesOwn.never rfl (pi_list_k K (pv 0)) (pg_name (i := 2) c_sum_of.nd rfl (Or.inl rfl))
(pss_one (ps_set (i := 1) c_sum_of.nd rfl (Or.inl rfl) (pe_c o_plus hr (pa_cons (pv 1) (pa_cons (pv 2) pa_nil))))))
(pss_one (ps_ret (pv 1))))), ?_⟩
    refine ⟨(by show 2 ≤ sizeLine; decide), fun p0 hp0 => ?_⟩
    have hlen : xs.length = ps.length := by rw [hd.length, List.length_map]
    refine ⟨_, rfl, l, rfl, ⟨xs, SqL.of (Same.upd hp0 _ _ hl)⟩, for_it (walk_list (xs := xs)) (fun i σ H' => Same H H' ∧ ∃ (r : Addr) (v2 : Option V), σ = [some (.ref l), some (.ref r), v2] ∧ H r = none ∧ Fq H' r (sumF (ps.take i)) (1 + 101 * i))
      ⟨Same.upd hp0, p0, _, rfl, hp0, upd_same, (sum_small hs 0).1, (sum_small hs 0).2.1, (sum_small hs 0).2.2⟩ (fun i σ H' _ h => SqL.of (h.1 _ _ hl)) ?_ ?_⟩
    · rintro i x σ H' H'' hi ⟨sm, r, v2, rfl, hr0, fr⟩ ⟨rfl, hx⟩
      obtain ⟨d, hdx, hD⟩ := hd.get hx
      rw [List.getElem?_map] at hdx
      cases e : ps[i]? with
      | none => rw [e] at hdx; cases hdx
      | some y =>
        rw [e] at hdx
        cases hdx
        have hy := hs y (List.mem_of_getElem? e)
        obtain ⟨q, rfl, fq⟩ := Fq.of (hD.same sm) hy
        have i30 : i < 30 := by
          have : i < xs.length := hi
          omega
        refine ⟨_, rfl, _, rfl, r, q, _, y, 1 + 101 * i + 100, rfl, fr.mono (by omega), fq.mono (by omega), by omega, by omega, fun r2 H2 hr2 s2 h2 => ?_⟩
        have es : sumF (ps.take (i + 1)) = addF (sumF (ps.take i)) y := by
          rw [List.take_add_one, e, Option.toList_some]
          show List.foldl addF (0, 1) (ps.take i ++ [y]) = _
          rw [List.foldl_append]
          rfl
        have sm2 := sum_small hs (i + 1)
        refine ⟨sm.trans s2, r2, _, rfl, ?_, ?_⟩
        · cases er : H r2 with
          | none => rfl
          | some o =>
            have := sm _ _ er
            rw [hr2] at this
            cases this
        · refine ⟨?_, sm2.1, sm2.2.1, sm2.2.2⟩
          rw [es]
          exact h2
    · rintro σ H' ⟨sm, r, v2, rfl, hr0, fr⟩
      have et : ps.take xs.length = ps := by rw [hlen]; exact List.take_length
      rw [et] at fr
      exact ⟨_, rfl, k r H' hr0 sm fr.at_⟩
end
end Dear

namespace Dear
open PySem PySem.Spec PyProof.Rows L2
/-- a kept refusal of the class at C: True -/
def spRefusal (C : Addr) : Sp := fun vs H Q _ => ∃ a : Addr, vs = [.ref a] ∧ H a = some (ExK (.ref C) none a) ∧ ∀ H', Same H H' → Q (.bl true) H'
theorem sign2 {v : V} (h : v ∈ [V.int 1, V.int (-1)]) : ∃ m : Int, v = .int m ∧ (m = 1 ∨ m = -1) := by
  simp only [List.mem_cons, List.not_mem_nil, or_false] at h
  rcases h with rfl | rfl
  · exact ⟨1, rfl, .inl rfl⟩
  · exact ⟨-1, rfl, .inr rfl⟩
section
variable {P : Program} {w : World} {K : PySem.W.Frag} {mg : Str → Option Value} {base : Heap}
theorem o__law_is_refusal (T : Txt K mg) : OkF P w K mg base CX0 1 "_law_is_refusal" ["_law_kept"] (spRefusal T.A.NoNumber) := by
  refine T.f__law_is_refusal.ok c__law_is_refusal (fun vs H Q E h => ?_) (fun f cdv A outer s H vs Q E hr h => ?_)
  · obtain ⟨v, rfl, _⟩ := h
    rfl
  · obtain ⟨a, rfl, ha, k⟩ := h
    refine ⟨_, (pss_cons (ps_if (PW.pt (pw_or (pt_not (pt_val (pe_callB (call_isX_k K) (by rfl) T.b_isinstance (by decide +kernel) (pa_cons (pv 0) (pa_cons (pe_glob (v := .ref T.A.NoNumber) rfl T.C_NoNumber rfl) pa_nil))))) (pw_or1 (pt_not (pt_val (pe_callB (call_isX_k K) (by rfl) T.b_isinstance (by decide +kernel) (pa_cons (pv 0) (pa_cons (pe_bltn (v := .ty "ValueError") (by rfl) T.b_ValueError (by decide +kernel) rfl) pa_nil))))))))
(pss_one (ps_ret pe_bl))
pss_nil)
(pss_cons (ps_if (pt_val (pe_callB (call_isXT_k K) (by rfl) T.b_isinstance (by decide +kernel) (pa_cons (pv 0) (pa_cons (pe_tup (pa_cons (pe_glob (v := .ref T.A.BadSign) rfl T.C_BadSign rfl) (pa_cons (pe_glob (v := .ref T.A.NoBook) rfl T.C_NoBook rfl) (pa_cons (pe_glob (v := .ref T.A.NoCount) rfl T.C_NoCount rfl) (pa_cons (pe_glob (v := .ref T.A.NoRow) rfl T.C_NoRow rfl) (pa_cons (pe_glob (v := .ref T.A.NoText) rfl T.C_NoText rfl) (pa_cons (pe_glob (v := .ref T.A.NoThing) rfl T.C_NoThing rfl) (pa_cons (pe_glob (v := .ref T.A.NoTongue) rfl T.C_NoTongue rfl) pa_nil)))))))) pa_nil))))
(pss_one (ps_ret pe_bl))
pss_nil)
(pss_one (ps_ret (pe_not (pe_callB (call_isXT_k K) (by rfl) T.b_isinstance (by decide +kernel) (pa_cons (pv 0) (pa_cons (pe_tup (pa_cons (pe_glob (v := .ref T.A.NoTree) rfl T.C_NoTree rfl) (pa_cons (pe_glob (v := .ref T.A.NoTurn) rfl T.C_NoTurn rfl) (pa_cons (pe_glob (v := .ref T.A.NoUndo) rfl T.C_NoUndo rfl) (pa_cons (pe_glob (v := .ref T.A.NoWants) rfl T.C_NoWants rfl) (pa_cons (pe_glob (v := .ref T.A.TooMany) rfl T.C_TooMany rfl) (pa_cons (pe_glob (v := .ref T.A.Unknown) rfl T.C_Unknown rfl) pa_nil))))))) pa_nil)))))))), ?_⟩
    refine ⟨_, rfl, a, _, _, _, _, rfl, ha, T.X_NoNumber.c, .own _, T.q_NoNumber_NoNumber, _, rfl, iteF ?_⟩
    refine ⟨_, rfl, a, _, _, _, _, rfl, ha, T.X_NoNumber.c, .ty _, T.q_NoNumber_ValueError, _, rfl, iteF ?_⟩
    refine ⟨_, rfl, (by show 7 ≤ sizeLine; decide), fun p hp => ?_⟩
    refine ⟨a, _, p, _, _, false, rfl, Same.upd hp _ _ ha, T.X_NoNumber.c, upd_same, cls_all (cs := [_, _, _, _, _, _, _]), kit_none ?_, _, rfl, iteF ?_⟩
    · intro u hu
      simp only [List.map_cons, List.map_nil, List.mem_cons, List.not_mem_nil, or_false] at hu
      rcases hu with rfl | rfl | rfl | rfl | rfl | rfl | rfl
      · exact T.q_NoNumber_BadSign
      · exact T.q_NoNumber_NoBook
      · exact T.q_NoNumber_NoCount
      · exact T.q_NoNumber_NoRow
      · exact T.q_NoNumber_NoText
      · exact T.q_NoNumber_NoThing
      · exact T.q_NoNumber_NoTongue
    · have s1 := Same.upd (o := .tup [.ref T.A.BadSign, .ref T.A.NoBook, .ref T.A.NoCount, .ref T.A.NoRow, .ref T.A.NoText, .ref T.A.NoThing, .ref T.A.NoTongue]) hp
      refine ⟨_, rfl, (by show 6 ≤ sizeLine; decide), fun p2 hp2 => ?_⟩
      refine ⟨a, _, p2, _, _, false, rfl, Same.upd hp2 _ _ (s1 _ _ ha), T.X_NoNumber.c, upd_same, cls_all (cs := [_, _, _, _, _, _]), kit_none ?_, _, rfl, ?_⟩
      · intro u hu
        simp only [List.map_cons, List.map_nil, List.mem_cons, List.not_mem_nil, or_false] at hu
        rcases hu with rfl | rfl | rfl | rfl | rfl | rfl
        · exact T.q_NoNumber_NoTree
        · exact T.q_NoNumber_NoTurn
        · exact T.q_NoNumber_NoUndo
        · exact T.q_NoNumber_NoWants
        · exact T.q_NoNumber_TooMany
        · exact T.q_NoNumber_Unknown
      · exact k _ (s1.trans (Same.upd hp2))
end
end Dear

namespace Dear
open PySem PySem.Spec PyProof.Rows L2
/-- a fraction in lowest terms: True -/
def spFrW : Sp := fun vs H Q _ => ∃ (p : Addr) (x : Int × Int) (n : Nat), vs = [.ref p] ∧ Fq H p x n ∧ Int.gcd x.2 x.1 = 1 ∧ 0 < n ∧ n ≤ 9000 ∧ ∀ H', Same H H' → Q (.bl true) H'
def spWorth : Sp := fun vs H Q _ => ∃ (p : Addr) (x : Int × Int) (t b : Int) (n : Nat), vs = [.ref p, .int t, .int b] ∧ Fq H p x n ∧ Int.gcd x.2 x.1 = 1 ∧ 0 < n ∧ n ≤ 9000 ∧ t.natAbs < 2 ^ n ∧ b.natAbs < 2 ^ n ∧ x.1 * b = t * x.2 ∧ ∀ H', Same H H' → Q (.bl true) H'
def spTwoF : Sp := fun vs H Q _ => ∃ (p q : Addr) (x y : Int × Int), vs = [.ref p, .ref q] ∧ Fq H p x 100 ∧ Fq H q y 100 ∧ ∀ H', Same H H' → Q (.bl true) H'
def spDrawn : Sp := fun vs H Q _ => ∃ l : Addr, vs = [.ref l] ∧ Src H l ∧ ∀ (p : Addr) (x : Int × Int) (H' : Hp), H p = none → Fq H' p x 100 → But l H H' → Src H' l → Q (.ref p) H'
def spSums : Sp := fun vs H Q _ => ∃ (l : Addr) (xs : List V) (ps : List (Int × Int)), vs = [.ref l] ∧ H l = some (.lst xs) ∧ DtAll H xs (ps.map frD) ∧ (∀ x ∈ ps, smallF 100 x) ∧ ps.length ≤ 21 ∧ ∀ H', Q (.bl true) H'
theorem low_gcd {t b : Int} (h : 0 < b) : Int.gcd (lowB t b) (lowT t b) = 1 := (low_fr t b h).2
theorem okAll_frs {ps : List (Int × Int)} : (∀ d ∈ ps.map frD, dep d ≤ 1) ∧ ∀ d ∈ ps.map frD, NoD d := by
  constructor <;> intro d hd <;> obtain ⟨x, _, rfl⟩ := List.mem_map.mp hd
  · exact Nat.le_refl _
  · exact ⟨trivial, trivial, trivial⟩
theorem lay_frs : ∀ ps : List (Int × Int), PyData.canLayAll0 (pyAll (ps.map frD)) = true
  | [] => rfl
  | x :: ps => by
    show (PyData.canLay0 (py (frD x)) && PyData.canLayAll0 (pyAll (ps.map frD))) = true
    rw [lay_frs ps]
    rfl
theorem shaped_frs (ps : List (Int × Int)) : SeqAt.shaped (py (.lst (ps.map frD))) = true := by
  show (PyData.canLayAll0 (pyAll (ps.map frD)) && decide (PyData.depth (py (.lst (ps.map frD))) ≤ 64)) = true
  have h : dep (.lst (ps.map frD)) ≤ 64 := by
    show depAll (ps.map frD) + 1 ≤ 64
    have := depAll_le (okAll_frs (ps := ps)).1
    omega
  rw [lay_frs, dep_py, decide_eq_true h]
  rfl
theorem sum_gcd {l : List (Int × Int)} (h : ∀ x ∈ l, smallF 100 x) : ∀ k, Int.gcd (sumF (l.take k)).2 (sumF (l.take k)).1 = 1
  | 0 => (show Int.gcd 1 0 = 1 by decide)
  | k + 1 => by
    have ih := sum_gcd h k
    have sm := sum_small h k
    rw [List.take_add_one]
    cases e : l[k]? with
    | none =>
      rw [Option.toList_none, List.append_nil]
      exact ih
    | some x =>
      rw [Option.toList_some]
      show Int.gcd (List.foldl addF (0, 1) (l.take k ++ [x])).2 (List.foldl addF (0, 1) (l.take k ++ [x])).1 = 1
      rw [List.foldl_append]
      exact low_gcd (Int.mul_pos sm.1 (h x (List.mem_of_getElem? e)).1)
theorem sum_next {l : List (Int × Int)} {k : Nat} {x : Int × Int} (e : l[k]? = some x) : sumF (l.take (k + 1)) = addF (sumF (l.take k)) x := by
  rw [List.take_add_one, e, Option.toList_some]
  show List.foldl addF (0, 1) (l.take k ++ [x]) = _
  rw [List.foldl_append]
  rfl
theorem DtAll.takeF {H : Hp} : ∀ {xs : List V} {ds : List D} (n : Nat), DtAll H xs ds → DtAll H (xs.take n) (ds.take n)
  | _, _, 0, _ => .nil
  | _, _, n + 1, .nil => .nil
  | _, _, n + 1, .cons a b => .cons a (DtAll.takeF n b)
theorem none_back {H H' : Hp} {c : Addr} (s : Same H H') (h : H' c = none) : H c = none := by
  cases e : H c with
  | none => rfl
  | some o =>
    have := s _ _ e
    rw [h] at this
    cases this
theorem But.same0 {l : Addr} {H H1 H2 : Hp} (s : Same H H1) (h : H l = none) (B : But l H1 H2) : Same H H2 := fun c o e => B c o (s c o e) (ne_of_none e h)
/-- the heap between the law's turns -/
structure Sums (sA p3 : Addr) (L : List V) (i : Nat) (H : Hp) (pA : Addr) (x : Int × Int) : Prop where
  lst : H p3 = some (.lst L)
  ne : pA ≠ sA
  one : Fq H pA x 100
  sm : ∃ (xs : List V) (ps : List (Int × Int)), H sA = some (.lst xs) ∧ DtAll (Off sA H) xs (ps.map frD) ∧ (∀ x ∈ ps, smallF 100 x) ∧ ps.length ≤ i ∧ ps.length ≤ 21
theorem Sums.same {sA p3 : Addr} {L : List V} {i : Nat} {H H' : Hp} {pA : Addr} {x : Int × Int} (h : Sums sA p3 L i H pA x) (s : Same H H') : Sums sA p3 L i H' pA x := by
  obtain ⟨h1, h2, h3, xs, ps, h4, h5, h6⟩ := h
  exact ⟨s _ _ h1, h2, h3.same s, xs, ps, s _ _ h4, h5.same (sOff s), h6⟩
theorem Sums.next {sA p3 : Addr} {L : List V} {i : Nat} {H : Hp} {pA q : Addr} {x y : Int × Int} (h : Sums sA p3 L i H pA x) (n : q ≠ sA) (f : Fq H q y 100) : Sums sA p3 L (i + 1) H q y := by
  obtain ⟨h1, h2, h3, xs, ps, h4, h5, h6, h7, h8⟩ := h
  exact ⟨h1, n, f, xs, ps, h4, h5, h6, by omega, h8⟩
theorem Sums.push {sA p3 : Addr} {L : List V} {i : Nat} {H : Hp} {pA q r : Addr} {x y z : Int × Int} (h : Sums sA p3 L i H pA x) (n3 : p3 ≠ sA) (hi : i < 21) (n : q ≠ sA) (f : Fq H q y 100) (nr : r ≠ sA) (g : Fq H r z 100) :
    ∃ xs, H sA = some (.lst xs) ∧ xs.length < sizeLine ∧ Sums sA p3 L (i + 1) (upd H sA (.lst (xs ++ [.ref r]))) q y := by
  obtain ⟨h1, h2, h3, xs, ps, h4, h5, h6, h7, h8⟩ := h
  have hl : xs.length = ps.length := by rw [h5.length, List.length_map]
  have e : ∀ {c : Addr} {o : HO}, H c = some o → c ≠ sA → upd H sA (.lst (xs ++ [.ref r])) c = some o := fun a b => by rw [upd_ne b]; exact a
  have so : Same (Off sA H) (Off sA (upd H sA (.lst (xs ++ [.ref r])))) := But.upd.off
  refine ⟨xs, h4, small1000 (by omega), e h1 n3, n, ⟨e f.at_ n, f.pos, f.t, f.b⟩, xs ++ [.ref r], ps ++ [z], upd_same, ?_, ?_, ?_, ?_⟩
  · rw [List.map_append]
    refine (h5.same so).app (.cons ?_ .nil)
    refine .tup ?_ (.cons (.int _) (.cons (.int _) .nil))
    rw [off_ne nr]
    exact e g.at_ nr
  · intro x hx
    rcases List.mem_append.mp hx with hx | hx
    · exact h6 x hx
    · have : x = z := by simpa using hx
      subst this
      exact ⟨g.pos, g.t, g.b⟩
  · rw [List.length_append]
    show _ + 1 ≤ _
    omega
  · rw [List.length_append]
    show _ + 1 ≤ _
    omega
section
variable {P : Program} {w : World} {K : PySem.W.Frag} {mg : Str → Option Value} {base : Heap}
theorem ow__law_is_fraction (T : Txt K mg) : OkF P w K mg base CX0 2 "_law_is_fraction" ["_law_found"] spFrW := by
  have o__law_whole := o__law_whole (P := P) (w := w) (base := base) T
  have o__law_lowest := o__law_lowest (P := P) (w := w) (base := base) T
  refine T.f__law_is_fraction.ok c__law_is_fraction (fun vs H Q E h => ?_) (fun f cdv A outer s H vs Q E hr h => ?_)
  · obtain ⟨v, n, _, rfl, _⟩ := h
    rfl
  · obtain ⟨p, ⟨t, b⟩, n, rfl, F, hg, n0, n9, k⟩ := h
    have ha := F.at_
    have hI := F.dt
    have c : 0 < b := F.pos
    refine ⟨_, (pss_cons (ps_if (PW.pt (pw_or (pt_not (pt_val (pe_callB (call_isi_k K) (by rfl) T.b_isinstance (by decide +kernel) (pa_cons (pv 0) (pa_cons (pe_bltn (v := .ty "tuple") (by rfl) T.b_tuple (by decide +kernel) rfl) pa_nil))))) (pw_or (pt_cmpR op_ne (pe_callB (call_len_seq_k K) (by rfl) T.b_len PySem.boot_len (pa_cons (pv 0) pa_nil)) pe_int (nomark _)) (pw_or (pt_not (pt_val (pe_c o__law_whole hr (pa_cons (pe_ix (ix_tup_k K) (pv 0) pe_int (fun _ _ => rfl)) pa_nil)))) (pw_or1 (pt_not (pt_val (pe_c o__law_whole hr (pa_cons (pe_ix (ix_tup_k K) (pv 0) pe_int (fun _ _ => rfl)) pa_nil)))))))))
(pss_one (ps_ret pe_bl))
pss_nil)
(pss_one (ps_ret (pe_and (pe_cmpR op_gt (pe_ix (ix_tup_k K) (pv 0) pe_int (fun _ _ => rfl)) pe_int (nomark _)) (pe_one (pe_cmpR (op_eqD_k K hr.units) (pe_c o__law_lowest hr (pa_cons (pe_ix (ix_tup_k K) (pv 0) pe_int (fun _ _ => rfl)) (pa_cons (pe_ix (ix_tup_k K) (pv 0) pe_int (fun _ _ => rfl)) pa_nil))) (pv 0) (nomark _))))))), ?_⟩
    refine ⟨_, rfl, _, _, _, _, _, rfl, .ty _, hI.ty, kit_ty (kd_tuple _), _, rfl, ?_⟩
    refine iteF ⟨_, rfl, _, _, rfl, .inr (SqT.of ha), rfl, _, rfl, iteF ?_⟩
    refine ⟨_, rfl, _, _, _, _, rfl, rfl, SqT.of ha, rfl, _, _, rfl, .int t, _, rfl, ?_⟩
    refine iteF ⟨_, rfl, _, _, _, _, rfl, rfl, SqT.of ha, rfl, _, _, rfl, .int b, _, rfl, ?_⟩
    refine iteF ⟨_, rfl, _, _, _, _, rfl, rfl, SqT.of ha, rfl, _, _, rfl, rfl, _, rfl, itd (fun _ => ?_) fun z => absurd c z⟩
    refine ⟨_, rfl, _, _, _, _, rfl, rfl, SqT.of ha, rfl, _, rfl, _, _, _, _, rfl, rfl, SqT.of ha, rfl, t, b, rfl, c, log_small n0 F.b n9, fun p H' hp S hH => ?_⟩
    refine ⟨_, rfl, _, _, .tup (SqT.of hH) (.cons (.int _) (.cons (.int _) .nil)), .tup (SqT.of (S _ _ ha)) (.cons (.int _) (.cons (.int _) .nil)), shaped_two _ _, shaped_two _ _, ?_⟩
    rw [eqv_two, low_eq c]
    have hg' : Int.gcd b t = 1 := hg
    rw [hg']
    exact k _ S
theorem o__law_worth (T : Txt K mg) : OkF P w K mg base CX0 3 "_law_worth" ["_law_found", "_law_top", "_law_bottom"] spWorth := by
  have o__law_is_fraction := ow__law_is_fraction (P := P) (w := w) (base := base) T
  refine T.f__law_worth.ok c__law_worth (fun vs H Q E h => ?_) (fun f cdv A outer s H vs Q E hr h => ?_)
  · obtain ⟨p, x, t, b, n, rfl, _⟩ := h
    rfl
  · obtain ⟨p, x, t, b, n, rfl, F, hg, n0, n9, ht, hb, e, k⟩ := h
    refine ⟨_, (pss_one (ps_ret (pe_and (pe_c o__law_is_fraction hr (pa_cons (pv 0) pa_nil)) (pe_one (pe_cmpR op_eq (pe_op op_mulW (pe_ix (ix_tup_k K) (pv 0) pe_int (fun _ _ => rfl)) (pv 2)) (pe_op op_mulW (pv 1) (pe_ix (ix_tup_k K) (pv 0) pe_int (fun _ _ => rfl))) (nomark _)))))), ?_⟩
    refine ⟨_, rfl, p, x, n, rfl, F, hg, n0, n9, fun H1 s1 => ⟨_, rfl, iteT ?_⟩⟩
    have ha := s1 _ _ F.at_
    refine ⟨_, rfl, _, _, _, _, rfl, rfl, SqT.of ha, rfl, _, rfl, _, _, rfl, rfl, wide_mul F.t hb n0 n0 (by omega), _, rfl, _, rfl, _, _, _, _, rfl, rfl, SqT.of ha, rfl, _, _, rfl, rfl, wide_mul ht F.b n0 n0 (by omega), rfl, ?_⟩
    have e2 : decide (V.int (x.1 * b) = V.int (t * x.2)) = true := decide_eq_true (by rw [e])
    have fin := k H1 s1
    rw [← e2] at fin
    exact fin
theorem o__law_parted (T : Txt K mg) : OkF P w K mg base CX0 5 "_law_parted" ["_law_one", "_law_other"] spTwoF := by
  have o_over := o_over (P := P) (w := w) (base := base) T
  have o__law_worth := o__law_worth (P := P) (w := w) (base := base) T
  have o__law_is_refusal := o__law_is_refusal (P := P) (w := w) (base := base) T
  refine T.f__law_parted.ok c__law_parted (fun vs H Q E h => ?_) (fun f cdv A outer s H vs Q E hr h => ?_)
  · obtain ⟨p, q, x, y, rfl, _⟩ := h
    rfl
  · obtain ⟨p, q, x, y, rfl, fx, fy, k⟩ := h
    refine ⟨_, (pss_cons (ps_set (i := 2) c__law_parted.nd rfl (Or.inl rfl) pe_non)
(pss_cons (ps_set (i := 3) c__law_parted.nd rfl (Or.inl rfl) pe_non)
(pss_cons (ps_try_kept (i := 4) (j := 2) rfl rfl rfl c__law_parted.nd rfl rfl (by decide) rfl rfl ⟨rfl, by decide, Or.inl T.C_DearError⟩ takes0 (fun W pn xe tk _ =>
(pss_one (ps_set (i := 3) c__law_parted.nd rfl (Or.inl rfl) (pe_cx o_over hr tk (pa_cons (pv 0) (pa_cons (pv 1) pa_nil)))))))
(pss_cons (ps_if (pt_cmpR op_eq (pe_ix (ix_tup_k K) (pv 1) pe_int (fun _ _ => rfl)) pe_int (nomark _))
(pss_one (ps_ret (pe_c o__law_is_refusal hr (pa_cons (pv 2) pa_nil))))
pss_nil)
(pss_one (ps_ret (pe_and (pe_cmpR op_isN (pv 2) pe_non (nomark _)) (pe_one (pe_c o__law_worth hr (pa_cons (pv 3) (pa_cons (pe_op op_mulW (pe_ix (ix_tup_k K) (pv 0) pe_int (fun _ _ => rfl)) (pe_ix (ix_tup_k K) (pv 1) pe_int (fun _ _ => rfl))) (pa_cons (pe_op op_mulW (pe_ix (ix_tup_k K) (pv 0) pe_int (fun _ _ => rfl)) (pe_ix (ix_tup_k K) (pv 1) pe_int (fun _ _ => rfl))) pa_nil)))))))))))), ?_⟩
    refine ⟨_, rfl, _, rfl, p, q, x, y, rfl, fx, fy, ?_, ?_⟩
    · intro c r H1 hr1 s1 h1
      have fy1 := fy.same s1
      have fx1 := fx.same s1
      have nz : x.2 * y.1 ≠ 0 := Int.mul_ne_zero (by have := fx.pos; omega) c
      refine ⟨_, rfl, _, _, _, _, rfl, rfl, SqT.of fy1.at_, rfl, rfl, _, rfl, ?_⟩
      rw [dec_int, show (y.1 == 0) = false by simpa using c]
      refine iteF ⟨_, rfl, rfl, _, rfl, iteT ?_⟩
      refine ⟨_, rfl, _, rfl, _, _, _, _, rfl, rfl, SqT.of fx1.at_, rfl, _, rfl, _, _, _, _, rfl, rfl, SqT.of fy1.at_, rfl, _, _, rfl, rfl, wide_mul fx.t fy.b (by decide) (by decide) (by decide), ?_⟩
      refine ⟨_, rfl, _, _, _, _, rfl, rfl, SqT.of fx1.at_, rfl, _, rfl, _, _, _, _, rfl, rfl, SqT.of fy1.at_, rfl, _, _, rfl, rfl, wide_mul fx.b fy.t (by decide) (by decide) (by decide), ?_⟩
      have ff := fr_fr (t := x.1 * y.2) nz
      have ff : (decide (0 < frB (x.1 * y.2) (x.2 * y.1)) && (Int.gcd (frB (x.1 * y.2) (x.2 * y.1)) (frT (x.1 * y.2) (x.2 * y.1)) == 1)) = true := ff
      rw [Bool.and_eq_true] at ff
      obtain ⟨z1, z2⟩ := fr_small (t := x.1 * y.2) nz
      have b1 := wide_lt fx.t fy.b
      have b2 := wide_lt fx.b fy.t
      refine ⟨r, (frT (x.1 * y.2) (x.2 * y.1), frB (x.1 * y.2) (x.2 * y.1)), _, _, 100 + 100, rfl, ⟨h1, of_decide_eq_true ff.1, Nat.lt_of_le_of_lt z1 b1, Nat.lt_of_le_of_lt z2 b2⟩, by simpa using ff.2, by decide, by decide, b1, b2, fr_cross nz, fun H2 s2 => k _ (s1.trans s2)⟩
    · intro c
      refine ⟨true, T.m_NoNumber, fun _ a hA => ?_, fun z => Bool.noConfusion z⟩
      have s1 := Same.upd (o := ExK (.ref T.A.NoNumber) none a) hA
      refine ⟨_, rfl, _, _, _, _, rfl, rfl, SqT.of (s1 _ _ fy.at_), rfl, rfl, _, rfl, ?_⟩
      rw [dec_int, show (y.1 == 0) = true by simpa using c]
      exact iteT ⟨_, rfl, a, rfl, upd_same, fun H2 s2 => k _ (s1.trans s2)⟩
theorem o__law_right (T : Txt K mg) : OkF P w K mg base CX0 6 "_law_right" ["_law_one", "_law_other"] spTwoF := by
  have o_plus := o_plus (P := P) (w := w) (base := base) T
  have o_minus := o_minus (P := P) (w := w) (base := base) T
  have o_times := o_times (P := P) (w := w) (base := base) T
  have o_under := o_under (P := P) (w := w) (base := base) T
  have o__law_worth := o__law_worth (P := P) (w := w) (base := base) T
  have o__law_parted := o__law_parted (P := P) (w := w) (base := base) T
  refine T.f__law_right.ok c__law_right (fun vs H Q E h => ?_) (fun f cdv A outer s H vs Q E hr h => ?_)
  · obtain ⟨p, q, x, y, rfl, _⟩ := h
    rfl
  · obtain ⟨p, q, x, y, rfl, fx, fy, k⟩ := h
    refine ⟨_, (pss_cons (ps_asg (pv 0) (pg_tup rfl (pgs_cons (pg_name (i := 2) c__law_right.nd rfl (Or.inl rfl)) (pgs_cons (pg_name (i := 3) c__law_right.nd rfl (Or.inl rfl)) pgs_nil))))
(pss_cons (ps_asg (pv 1) (pg_tup rfl (pgs_cons (pg_name (i := 4) c__law_right.nd rfl (Or.inl rfl)) (pgs_cons (pg_name (i := 5) c__law_right.nd rfl (Or.inl rfl)) pgs_nil))))
(pss_cons (ps_if (pt_not (pt_val (pe_c o__law_worth hr (pa_cons (pe_c o_plus hr (pa_cons (pv 0) (pa_cons (pv 1) pa_nil))) (pa_cons (pe_op op_add (pe_op op_mulW (pv 2) (pv 5)) (pe_op op_mulW (pv 4) (pv 3))) (pa_cons (pe_op op_mulW (pv 3) (pv 5)) pa_nil))))))
(pss_one (ps_ret pe_bl))
pss_nil)
(pss_cons (ps_if (pt_not (pt_val (pe_c o__law_worth hr (pa_cons (pe_c o_minus hr (pa_cons (pv 0) (pa_cons (pv 1) pa_nil))) (pa_cons (pe_op op_sub (pe_op op_mulW (pv 2) (pv 5)) (pe_op op_mulW (pv 4) (pv 3))) (pa_cons (pe_op op_mulW (pv 3) (pv 5)) pa_nil))))))
(pss_one (ps_ret pe_bl))
pss_nil)
(pss_cons (ps_if (PW.pt (pw_or (pt_not (pt_val (pe_c o__law_worth hr (pa_cons (pe_c o_times hr (pa_cons (pv 0) (pa_cons (pv 1) pa_nil))) (pa_cons (pe_op op_mulW (pv 2) (pv 4)) (pa_cons (pe_op op_mulW (pv 3) (pv 5)) pa_nil)))))) (pw_or1 (pt_not (pt_val (pe_c o__law_parted hr (pa_cons (pv 0) (pa_cons (pv 1) pa_nil))))))))
(pss_one (ps_ret pe_bl))
pss_nil)
(pss_cons (ps_set (i := 6) c__law_right.nd rfl (Or.inl rfl) (pe_c o_under hr (pa_cons (pv 0) (pa_cons (pv 1) pa_nil))))
(pss_one (ps_ret (pe_and (pe_callB (call_isi_k K) (by rfl) T.b_isinstance (by decide +kernel) (pa_cons (pv 6) (pa_cons (pe_bltn (v := .ty "bool") (by rfl) T.b_bool (by decide +kernel) rfl) pa_nil))) (pe_one (pe_cmpR op_eq (pv 6) (pe_cmpR op_lt (pe_op op_mulW (pv 2) (pv 5)) (pe_op op_mulW (pv 4) (pv 3)) (nomark _)) (nomark _)))))))))))), ?_⟩
    refine ⟨_, rfl, p, _, rfl, SqT.of fx.at_, rfl, _, _, rfl, _, _, rfl, rfl, ?_⟩
    refine ⟨_, rfl, q, _, rfl, SqT.of fy.at_, rfl, _, _, rfl, _, _, rfl, rfl, ?_⟩
    have bp : 0 < bots x y := Int.mul_pos fx.pos fy.pos
    have w1 : CMulW x.1 y.2 := wide_mul fx.t fy.b (by decide) (by decide) (by decide)
    have w2 : CMulW y.1 x.2 := wide_mul fy.t fx.b (by decide) (by decide) (by decide)
    have w3 : CMulW x.2 y.2 := wide_mul fx.b fy.b (by decide) (by decide) (by decide)
    have w4 : CMulW x.1 y.1 := wide_mul fx.t fy.t (by decide) (by decide) (by decide)
    have l1 := wide_lt fx.t fy.b
    have l2 := wide_lt fy.t fx.b
    have l3 := wide_lt fx.b fy.b
    have l4 := wide_lt fx.t fy.t
    have l3' : (bots x y).natAbs < 2 ^ 201 := up_lt l3 (by decide)
    -- plus
    refine ⟨_, rfl, _, rfl, p, q, x, y, 100, rfl, fx, fy, by decide, by decide, fun r1 H1 hr1 s1 h1 => ?_⟩
    have a1 : (plusT x y).natAbs < 2 ^ 201 := add_lt l1 l2
    obtain ⟨q1, q2, q3⟩ := low_lt bp a1 l3'
    refine ⟨_, rfl, _, rfl, _, _, rfl, rfl, w1, _, rfl, _, rfl, _, _, rfl, rfl, w2, _, _, rfl, rfl, _, rfl, _, rfl, _, _, rfl, rfl, w3, r1, lowF (plusT x y) (bots x y), _, _, 201, rfl, ⟨h1, q1, q2, q3⟩, low_gcd bp, by decide, by decide, a1, l3', low_cross _ _ bp, fun H2 s2 => ⟨_, rfl, iteF ?_⟩⟩
    have t2 := s1.trans s2
    -- minus
    refine ⟨_, rfl, _, rfl, p, q, x, y, 100, rfl, fx.same t2, fy.same t2, by decide, by decide, fun r3 H3 hr3 s3 h3 => ?_⟩
    have a3 : (minusT x y).natAbs < 2 ^ 201 := sub_lt l1 l2
    obtain ⟨q1, q2, q3⟩ := low_lt bp a3 l3'
    refine ⟨_, rfl, _, rfl, _, _, rfl, rfl, w1, _, rfl, _, rfl, _, _, rfl, rfl, w2, _, _, rfl, rfl, _, rfl, _, rfl, _, _, rfl, rfl, w3, r3, lowF (minusT x y) (bots x y), _, _, 201, rfl, ⟨h3, q1, q2, q3⟩, low_gcd bp, by decide, by decide, a3, l3', low_cross _ _ bp, fun H4 s4 => ⟨_, rfl, iteF ?_⟩⟩
    have t4 := (t2.trans s3).trans s4
    -- times
    refine ⟨_, rfl, _, rfl, p, q, x, y, 100, rfl, fx.same t4, fy.same t4, by decide, by decide, fun r5 H5 hr5 s5 h5 => ?_⟩
    have a5 : (timesT x y).natAbs < 2 ^ 201 := up_lt l4 (by decide)
    obtain ⟨q1, q2, q3⟩ := low_lt bp a5 l3'
    refine ⟨_, rfl, _, rfl, _, _, rfl, rfl, w4, _, rfl, _, rfl, _, _, rfl, rfl, w3, r5, lowF (timesT x y) (bots x y), _, _, 201, rfl, ⟨h5, q1, q2, q3⟩, low_gcd bp, by decide, by decide, a5, l3', low_cross _ _ bp, fun H6 s6 => ⟨_, rfl, iteF ?_⟩⟩
    have t6 := (t4.trans s5).trans s6
    -- parted
    refine ⟨_, rfl, _, rfl, p, q, x, y, rfl, fx.same t6, fy.same t6, fun H7 s7 => ⟨_, rfl, iteF ?_⟩⟩
    have t7 := t6.trans s7
    -- under
    refine ⟨_, rfl, _, rfl, p, q, x, y, 100, rfl, fx.same t7, fy.same t7, by decide, by decide, ?_⟩
    refine ⟨_, rfl, _, _, _, _, _, rfl, .ty _, (Dt.bl _).ty, kit_ty (kd_bool _), _, rfl, iteT ?_⟩
    refine ⟨_, rfl, _, rfl, _, rfl, _, _, rfl, rfl, w1, _, rfl, _, rfl, _, _, rfl, rfl, w2, _, _, rfl, rfl, rfl, ?_⟩
    have e : decide (V.bl (decide (x.1 * y.2 < y.1 * x.2)) = V.bl (decide (x.1 * y.2 < y.1 * x.2))) = true := decide_eq_true rfl
    have fin := k H7 t7
    rw [← e] at fin
    exact fin
theorem o__law_drawn (T : Txt K mg) : OkF P w K mg base CX0 2 "_law_drawn" ["_law_source_here"] spDrawn := by
  have o__law_draw := o__law_draw (P := P) (w := w) (base := base) T
  have o__law_lowest := o__law_lowest (P := P) (w := w) (base := base) T
  refine T.f__law_drawn.ok c__law_drawn (fun vs H Q E h => ?_) (fun f cdv A outer s H vs Q E hr h => ?_)
  · obtain ⟨v, rfl, _⟩ := h
    rfl
  · obtain ⟨l, rfl, S, k⟩ := h
    refine ⟨_, (pss_cons (ps_set (i := 1) c__law_drawn.nd rfl (Or.inl rfl) (pe_ix (ix_list_k K) (pe_lst (pa_cons pe_int (pa_cons pe_int (pa_cons pe_int (pa_cons (pe_op op_pow pe_int pe_int) pa_nil))))) (pe_c o__law_draw hr (pa_cons (pv 0) (pa_cons pe_int pa_nil))) (fun _ _ => rfl)))
(pss_cons (ps_set (i := 2) c__law_drawn.nd rfl (Or.inl rfl) (pe_op op_mulW (pe_c o__law_draw hr (pa_cons (pv 0) (pa_cons (pv 1) pa_nil))) (pe_ix (ix_list_k K) (pe_lst (pa_cons pe_int (pa_cons (pe_un un_neg pe_int) pa_nil))) (pe_c o__law_draw hr (pa_cons (pv 0) (pa_cons pe_int pa_nil))) (fun _ _ => rfl))))
(pss_one (ps_ret (pe_c o__law_lowest hr (pa_cons (pv 2) (pa_cons (pe_op op_add pe_int (pe_c o__law_draw hr (pa_cons (pv 0) (pa_cons (pe_op op_sub (pv 1) pe_int) pa_nil)))) pa_nil))))))), ?_⟩
    refine ⟨_, _, rfl, rfl, ⟨by decide, by decide, by decide⟩, (by show 4 ≤ sizeLine; decide), fun p1 hp1 => ?_⟩
    refine ⟨_, rfl, l, 4, rfl, S.same (Same.upd hp1), by decide, by decide, fun r H1 r0 r1 B1 S1 => ?_⟩
    obtain ⟨v, hv, hm, _⟩ := at_lt (xs := [V.int 7, V.int 7, V.int 1001, V.int (10 ^ 30)]) r0 (by simpa using r1)
    obtain ⟨m, rfl, m7, m30⟩ : ∃ m : Int, v = .int m ∧ 7 ≤ m ∧ m ≤ 10 ^ 30 := by
      simp only [List.mem_cons, List.not_mem_nil, or_false] at hm
      rcases hm with rfl | rfl | rfl | rfl
      · exact ⟨7, rfl, by decide, by decide⟩
      · exact ⟨7, rfl, by decide, by decide⟩
      · exact ⟨1001, rfl, by decide, by decide⟩
      · exact ⟨10 ^ 30, rfl, by decide, by decide⟩
    refine ⟨_, _, _, _, rfl, rfl, SqL.of (B1 p1 _ upd_same (S.ne hp1)), hv, ?_⟩
    have big : ∀ i : Int, i.natAbs ≤ 10 ^ 30 → i.natAbs < 2 ^ 100 := fun i h => Nat.lt_of_le_of_lt h (by decide)
    have lg : ∀ i : Int, i.natAbs ≤ 10 ^ 30 → i.natAbs.log2 < 9000 := fun i h => log_small (n := 100) (by decide) (big i h) (by decide)
    refine ⟨_, rfl, _, rfl, l, m, rfl, S1, by omega, lg _ (by omega), fun t H2 t0 t1 B2 S2 => ⟨_, rfl, (by show 2 ≤ sizeLine; decide), fun p2 hp2 => ?_⟩⟩
    refine ⟨_, rfl, l, 2, rfl, S2.same (Same.upd hp2), by decide, by decide, fun r3 H3 r30 r31 B3 S3 => ?_⟩
    obtain ⟨v3, hv3, hm3, _⟩ := at_lt (xs := [V.int 1, V.int (-1)]) r30 (by simpa using r31)
    refine ⟨_, _, _, _, rfl, rfl, SqL.of (B3 p2 _ upd_same (S2.ne hp2)), hv3, ?_⟩
    obtain ⟨g, rfl, hg⟩ := sign2 hm3
    have tg : (t * g).natAbs ≤ 10 ^ 30 := by rcases hg with rfl | rfl <;> omega
    refine ⟨_, _, rfl, rfl, wide_mul (big t (by omega)) (big g (by rcases hg with rfl | rfl <;> decide)) (by decide) (by decide) (by decide), ?_⟩
    refine ⟨_, rfl, _, rfl, _, rfl, _, _, rfl, rfl, l, m - 1, rfl, S3, by omega, lg _ (by omega), fun b H4 b0 b1 B4 S4 => ⟨_, _, rfl, rfl, ?_⟩⟩
    refine ⟨_, _, rfl, by omega, lg _ (by omega), fun p5 H5 hp5 s5 h5 => ?_⟩
    obtain ⟨q1, q2, q3⟩ := low_lt (t := t * g) (b := 1 + b) (by omega) (big _ tg) (big _ (by omega))
    have B : But l H H4 := (((((But.of (Same.upd hp1)).trans B1).trans B2).new hp2).trans B3).trans B4
    refine k p5 (lowF (t * g) (1 + b)) H5 ?_ ⟨h5, q1, q2, q3⟩ (B.trans (.of s5)) (S4.same s5)
    cases e : H p5 with
    | none => rfl
    | some o =>
      have := B _ _ e (S4.ne hp5)
      rw [hp5] at this
      cases this
theorem o__law_sums_right (T : Txt K mg) : OkF P w K mg base CX0 5 "_law_sums_right" ["_law_some"] spSums := by
  have o__law_lowest := o__law_lowest (P := P) (w := w) (base := base) T
  have o_sum_of := o_sum_of (P := P) (w := w) (base := base) T
  have o__law_is_fraction := ow__law_is_fraction (P := P) (w := w) (base := base) T
  refine T.f__law_sums_right.ok c__law_sums_right (fun vs H Q E h => ?_) (fun f cdv A outer s H vs Q E hr h => ?_)
  · obtain ⟨l, xs, ps, rfl, _⟩ := h
    rfl
  · obtain ⟨l, xs, ps, rfl, hl, hd, hs, hn, k⟩ := h
    refine ⟨_, (pss_cons (ps_set (i := 1) c__law_sums_right.nd rfl (Or.inl rfl) (pe_lst pa_nil))
(pss_cons (ps_set (i := 2) c__law_sums_right.nd rfl (Or.inl rfl) (pe_tup (pa_cons pe_int (pa_cons pe_int pa_nil))))
(pss_cons (ps_for PassesOwn.never rfl (pi_list_k K (pe_op op_cat (pv 0) (pe_lst (pa_cons (pe_tup (pa_cons pe_int (pa_cons pe_int pa_nil))) pa_nil)))) (pg_name (i := 3) c__law_sums_right.nd rfl (Or.inl rfl))
(pss_cons (ps_set (i := 4) c__law_sums_right.nd rfl (Or.inl rfl) (pe_callTy (call_list_of_k K) (by rfl) T.b_list (by decide +kernel) (pa_cons (pv 1) pa_nil)))
(pss_cons (ps_if (PW.pt (pw_or (pt_not (pt_val (pe_c o__law_is_fraction hr (pa_cons (pe_c o_sum_of hr (pa_cons (pv 1) pa_nil)) pa_nil)))) (pw_or (pt_cmpR (op_neD_k K hr.units) (pe_c o_sum_of hr (pa_cons (pv 1) pa_nil)) (pv 2) (nomark _)) (pw_or1 (pt_cmpR (op_neD_k K hr.units) (pv 1) (pv 4) (nomark _))))))
(pss_one (ps_ret pe_bl))
pss_nil)
(pss_cons (ps_expr (pe_bm PySem.F.plainAttrs_list PySem.F.slot_list_append PySem.F.type_list_append mt_append (pv 1) (pa_cons (pv 3) pa_nil)))
(pss_one (ps_set (i := 2) c__law_sums_right.nd rfl (Or.inl rfl) (pe_c o__law_lowest hr (pa_cons (pe_op op_add (pe_op op_mulW (pe_ix (ix_tup_k K) (pv 2) pe_int (fun _ _ => rfl)) (pe_ix (ix_tup_k K) (pv 3) pe_int (fun _ _ => rfl))) (pe_op op_mulW (pe_ix (ix_tup_k K) (pv 3) pe_int (fun _ _ => rfl)) (pe_ix (ix_tup_k K) (pv 2) pe_int (fun _ _ => rfl)))) (pa_cons (pe_op op_mulW (pe_ix (ix_tup_k K) (pv 2) pe_int (fun _ _ => rfl)) (pe_ix (ix_tup_k K) (pv 3) pe_int (fun _ _ => rfl))) pa_nil)))))))))
(pss_one (ps_ret pe_bl))))), ?_⟩
    refine ⟨(by show 0 ≤ sizeLine; decide), fun ph hph => ⟨(by show 2 ≤ sizeLine; decide), fun pd hpd => ?_⟩⟩
    refine ⟨_, rfl, (by show 2 ≤ sizeLine; decide), fun pz hpz => ⟨(by show 1 ≤ sizeLine; decide), fun pl hpl => ?_⟩⟩
    have sa := Same.upd (o := .lst []) hph
    have sb := Same.upd (o := .tup [.int 0, .int 1]) hpd
    have sc := Same.upd (o := .tup [.int 0, .int 1]) hpz
    have sd := Same.upd (o := .lst [.ref pz]) hpl
    have hlen : xs.length = ps.length := by rw [hd.length, List.length_map]
    refine ⟨_, _, _, _, rfl, rfl, sd _ _ (sc _ _ (sb _ _ (sa _ _ hl))), upd_same, sz_lit ?_, fun p3 hp3 => ?_⟩
    · show _ + 1 ≤ 1000
      omega
    have se := Same.upd (o := .lst (xs ++ [.ref pz])) hp3
    have s0 : Same H _ := (((sa.trans sb).trans sc).trans sd).trans se
    have hh0 := se _ _ (sd _ _ (sc _ _ (sb _ _ (upd_same (H := H) (a := ph) (o := .lst [])))))
    have hd0 := se _ _ (sd _ _ (sc _ _ (upd_same (a := pd) (o := .tup [.int 0, .int 1]) (H := upd H ph (.lst [])))))
    have hz0 := se _ _ (sd _ _ (upd_same (a := pz) (o := .tup [.int 0, .int 1]) (H := upd (upd H ph (.lst [])) pd (.tup [.int 0, .int 1]))))
    have h30 := upd_same (a := p3) (o := .lst (xs ++ [.ref pz])) (H := upd (upd (upd (upd H ph (.lst [])) pd (.tup [.int 0, .int 1])) pz (.tup [.int 0, .int 1])) pl (.lst [.ref pz]))
    have nd : pd ≠ ph := fun e => by
      subst e
      rw [upd_same] at hpd
      cases hpd
    have nz : pz ≠ ph := fun e => by
      subst e
      have := sb _ _ (upd_same (H := H) (a := pz) (o := .lst []))
      rw [hpz] at this
      cases this
    have n3 : p3 ≠ ph := fun e => by
      subst e
      have := sd _ _ (sc _ _ (sb _ _ (upd_same (H := H) (a := p3) (o := .lst []))))
      rw [hp3] at this
      cases this
    generalize upd (upd (upd (upd (upd H ph (.lst [])) pd (.tup [.int 0, .int 1])) pz (.tup [.int 0, .int 1])) pl (.lst [.ref pz])) p3 (.lst (xs ++ [.ref pz])) = H0 at s0 hh0 hd0 hz0 h30 ⊢
    have hall : DtAll (Off ph H0) (xs ++ [.ref pz]) ((ps ++ [(0, 1)]).map frD) := by
      rw [List.map_append]
      refine DtAll.app (hd.same fun c o e => ?_) (.cons (.tup ?_ (.cons (.int _) (.cons (.int _) .nil))) .nil)
      · rw [off_ne (ne_of_none e hph)]
        exact s0 _ _ e
      · rw [off_ne nz]
        exact hz0
    have hs' : ∀ x ∈ ps ++ [((0 : Int), (1 : Int))], smallF 100 x := fun x hx => by
      rcases List.mem_append.mp hx with hx | hx
      · exact hs x hx
      · have : x = (0, 1) := by simpa using hx
        subst this
        exact ⟨by decide, by decide, by decide⟩
    have hn' : (ps ++ [((0 : Int), (1 : Int))]).length ≤ 22 := by
      rw [List.length_append]
      show _ + 1 ≤ 22
      omega
    have hlen' : (xs ++ [V.ref pz]).length = (ps ++ [((0 : Int), (1 : Int))]).length := by rw [hall.length, List.length_map]
    generalize ps ++ [((0 : Int), (1 : Int))] = qs at hall hs' hn' hlen'
    generalize xs ++ [V.ref pz] = ys at hall h30 hlen' ⊢
    refine ⟨p3, rfl, ⟨ys, SqL.of h30⟩, for_it (walk_list (xs := ys)) (fun i σ H' => ∃ (rd : Addr) (v3 v4 : Option V), σ = [some (.ref l), some (.ref ph), some (.ref rd), v3, v4] ∧ H' ph = some (.lst (ys.take i)) ∧ But ph H0 H' ∧ rd ≠ ph ∧ Fq H' rd (sumF (qs.take i)) (1 + 101 * i))
      ⟨pd, _, _, rfl, hh0, .refl _ _, nd, hd0, (sum_small hs' 0).1, (sum_small hs' 0).2.1, (sum_small hs' 0).2.2⟩ (fun i σ H' _ h => ?_) ?_ ?_⟩
    · obtain ⟨rd, v3, v4, _, _, B, _⟩ := h
      exact SqL.of (B _ _ h30 n3)
    · rintro i x σ H' H'' hi ⟨rd, v3, v4, rfl, hh, B, nr, F⟩ ⟨rfl, hx⟩
      have i22 : i < 22 := by omega
      obtain ⟨d, hdx, hD⟩ := hall.get hx
      rw [List.getElem?_map] at hdx
      cases e : qs[i]? with
      | none => rw [e] at hdx; cases hdx
      | some y =>
        rw [e] at hdx
        cases hdx
        have hy := hs' y (List.mem_of_getElem? e)
        have hall1 := (hall.same B.off).takeF i
        rw [← List.map_take] at hall1
        have hsT : ∀ x ∈ qs.take i, smallF 100 x := fun x hx => hs' x (List.mem_of_mem_take hx)
        have lenT : (qs.take i).length ≤ 30 := by
          rw [List.length_take]
          omega
        refine ⟨_, rfl, ph, _, rfl, .inl (SqL.of hh), fun pk hpk => ?_⟩
        have s1 := Same.upd (o := .lst (ys.take i)) hpk
        have onAll : ∀ {Hx : Hp}, Same H'' Hx → DtAll Hx (ys.take i) ((qs.take i).map frD) := fun s => (hall1.same (Off.sub ph H'')).same s
        refine ⟨_, rfl, ph, _, _, rfl, s1 _ _ hh, onAll s1, hsT, lenT, fun r2 H2 hr2 s2 h2 => ?_⟩
        have sm := sum_small hs' i
        refine ⟨r2, sumF (qs.take i), 1 + 101 * i, rfl, ⟨h2, sm.1, sm.2.1, sm.2.2⟩, sum_gcd hs' i, by omega, by omega, fun H3 s3 => ⟨_, rfl, iteF ?_⟩⟩
        have t3 := (s1.trans s2).trans s3
        refine ⟨_, rfl, ph, _, _, rfl, t3 _ _ hh, onAll t3, hsT, lenT, fun r4 H4 hr4 s4 h4 => ?_⟩
        have t4 := t3.trans s4
        refine ⟨_, rfl, _, _, .tup (SqT.of h4) (.cons (.int _) (.cons (.int _) .nil)), .tup (SqT.of (t4 _ _ F.at_)) (.cons (.int _) (.cons (.int _) .nil)), shaped_two _ _, shaped_two _ _, ?_⟩
        rw [eqv_same (shaped_two _ _)]
        refine ⟨_, rfl, iteF ?_⟩
        have no : NoD (.lst ((qs.take i).map frD)) := noAll_of okAll_frs.2
        refine ⟨_, rfl, _, rfl, _, _, (Dt.lst (t4 _ _ hh) (onAll t4)).dp no, (Dt.lst (s4 _ _ (s3 _ _ (s2 _ _ (upd_same (a := pk) (o := .lst (ys.take i)))))) (onAll t4)).dp no, shaped_frs _, shaped_frs _, ?_⟩
        rw [eqv_same (shaped_frs _)]
        refine ⟨_, rfl, iteF ?_⟩
        refine ⟨_, rfl, .inl ⟨rfl, _, SqL.of (t4 _ _ hh)⟩, _, rfl, ph, ys.take i, _, rfl, rfl, t4 _ _ hh, small1000 (by rw [List.length_take]; omega), ?_⟩
        have t5 : But ph H'' (upd H4 ph (.lst (ys.take i ++ [x]))) := (But.of t4).trans But.upd
        have F5 : Fq _ rd _ _ := ⟨t5 _ _ F.at_ nr, F.pos, F.t, F.b⟩
        obtain ⟨q, rfl, Fq0⟩ := Fq.of (hD.same ((B.trans t5).off)) hy
        have Fq5 := Fq0.same (Off.sub ph _)
        have j0 : 0 < 1 + 101 * i := by omega
        refine ⟨_, rfl, _, _, _, _, rfl, rfl, SqT.of F5.at_, rfl, _, rfl, _, _, _, _, rfl, rfl, SqT.of Fq5.at_, rfl, _, _, rfl, rfl, wide_mul F5.t Fq5.b j0 (by decide) (by omega), ?_⟩
        refine ⟨_, rfl, _, _, _, _, rfl, rfl, SqT.of Fq5.at_, rfl, _, rfl, _, _, _, _, rfl, rfl, SqT.of F5.at_, rfl, _, _, rfl, rfl, wide_mul Fq5.t F5.b (by decide) j0 (by omega), _, _, rfl, rfl, ?_⟩
        refine ⟨_, rfl, _, _, _, _, rfl, rfl, SqT.of F5.at_, rfl, _, rfl, _, _, _, _, rfl, rfl, SqT.of Fq5.at_, rfl, _, _, rfl, rfl, wide_mul F5.b Fq5.b j0 (by decide) (by omega), ?_⟩
        refine ⟨_, _, rfl, Int.mul_pos F.pos hy.1, log_small (n := 1 + 101 * i + 100) (by omega) (wide_lt F.b hy.2.2) (by omega), fun r6 H6 hr6 s6 h6 => ?_⟩
        have n6 : r6 ≠ ph := fun z => by
          subst z
          rw [upd_same] at hr6
          cases hr6
        have sm6 := sum_small hs' (i + 1)
        refine ⟨r6, _, _, rfl, ?_, (B.trans t5).trans (.of s6), n6, ?_, sm6.1, sm6.2.1, sm6.2.2⟩
        · have e9 : ys.take (i + 1) = ys.take i ++ [.ref q] := by rw [List.take_add_one, hx]; rfl
          rw [e9]
          exact s6 _ _ upd_same
        · rw [sum_next e]
          exact h6
    · rintro σ H' ⟨rd, v3, v4, rfl, _⟩
      exact k _
theorem ok_law (T : Txt K mg) {f : Addr} {fd : FuncData} (F : Fun K "law" "law" s_law f fd) : FnOk P w K mg base CX0 7 f fd ["_law_script"] (spLaw K) := by
  have o__law_source := o__law_source (P := P) (w := w) (base := base) T
  have o__law_draw := o__law_draw (P := P) (w := w) (base := base) T
  have o__law_drawn := o__law_drawn (P := P) (w := w) (base := base) T
  have o__law_lowest := o__law_lowest (P := P) (w := w) (base := base) T
  have o__law_right := o__law_right (P := P) (w := w) (base := base) T
  have o__law_sums_right := o__law_sums_right (P := P) (w := w) (base := base) T
  refine F.ok c_law (fun vs H Q E h => ?_) (fun cdv A outer s H vs Q E hr h => ?_)
  · obtain ⟨a, ns, rfl, _⟩ := h
    rfl
  · obtain ⟨a, ns, rfl, hS, hlen, k⟩ := h
    refine ⟨_, (pss_cons (ps_set (i := 1) c_law.nd rfl (Or.inl rfl) (pe_tup (pa_cons pe_int (pa_cons pe_int pa_nil))))
(pss_cons (ps_set (i := 2) c_law.nd rfl (Or.inl rfl) (pe_lst pa_nil))
(pss_cons (ps_for PassesOwn.never rfl (pi_enum (by rfl) T.b_enumerate (pa_cons (pe_op op_cat (pe_lst (pa_cons pe_int (pa_cons pe_int pa_nil))) (pe_slice (sl_list_k K) (pv 0) po_none (po_some pe_int))) pa_nil)) (pg_tup rfl (pgs_cons (pg_name (i := 3) c_law.nd rfl (Or.inl rfl)) (pgs_cons (pg_name (i := 4) c_law.nd rfl (Or.inl rfl)) pgs_nil)))
(pss_cons (ps_set (i := 5) c_law.nd rfl (Or.inl rfl) (pe_c o__law_source hr (pa_cons (pv 4) (pa_cons (pv 3) pa_nil))))
(pss_cons (ps_set (i := 6) c_law.nd rfl (Or.inl rfl) (pe_c o__law_drawn hr (pa_cons (pv 5) pa_nil)))
(pss_cons (ps_for PassesOwn.never rfl (pi_list_k K (pe_lst (pa_cons (pv 1) (pa_cons (pv 6) pa_nil)))) (pg_name (i := 7) c_law.nd rfl (Or.inl rfl))
(pss_one (ps_if (PW.pt (pw_or (pt_not (pt_val (pe_c o__law_right hr (pa_cons (pv 6) (pa_cons (pv 7) pa_nil))))) (pw_or1 (pt_not (pt_val (pe_c o__law_right hr (pa_cons (pv 7) (pa_cons (pv 6) pa_nil))))))))
(pss_one (ps_ret pe_bl))
pss_nil)))
(pss_cons (ps_set (i := 1) c_law.nd rfl (Or.inl rfl) (pv 6))
(pss_one (ps_if (PW.pt (pw_and (pt_cmpR op_lt (pv 3) pe_int (nomark _)) (pw_and1 (pt_cmpR op_eq (pe_c o__law_draw hr (pa_cons (pv 5) (pa_cons pe_int pa_nil))) pe_int (nomark _)))))
(pss_one (ps_expr (pe_bm PySem.F.plainAttrs_list PySem.F.slot_list_append PySem.F.type_list_append mt_append (pv 2) (pa_cons (pv 6) pa_nil))))
(pss_one (ps_if (pt_cmpR op_lt (pv 3) pe_int (nomark _))
(pss_one (ps_expr (pe_bm PySem.F.plainAttrs_list PySem.F.slot_list_append PySem.F.type_list_append mt_append (pv 2) (pa_cons (pe_c o__law_lowest hr (pa_cons (pe_op op_sub (pe_c o__law_draw hr (pa_cons (pv 5) (pa_cons pe_int pa_nil))) pe_int) (pa_cons (pe_op op_add pe_int (pe_c o__law_draw hr (pa_cons (pv 5) (pa_cons pe_int pa_nil)))) pa_nil))) pa_nil))))
pss_nil)))))))))
(pss_one (ps_ret (pe_c o__law_sums_right hr (pa_cons (pv 2) pa_nil))))))), ?_⟩
    refine ⟨(by show 2 ≤ sizeLine; decide), fun pA hpA => ⟨(by show 0 ≤ sizeLine; decide), fun sA hsA => ?_⟩⟩
    have u1 := Same.upd (o := .tup [.int 1, .int 2]) hpA
    have u2 := Same.upd (o := .lst []) hsA
    refine ⟨(by show 2 ≤ sizeLine; decide), fun p1 hp1 => ⟨_, rfl, _, rfl, _, _, rfl, ((u1.trans u2).trans (Same.upd hp1)).seq hS, fun p2 hp2 => ?_⟩⟩
    have u3 := Same.upd (o := .lst [.int 1, .int 2]) hp1
    have u4 := Same.upd (o := HO.lst (cutV (ns.map V.int) none (some 63))) hp2
    have hp1' := u4 _ _ (upd_same (a := p1) (o := .lst [.int 1, .int 2]) (H := upd (upd H pA (.tup [.int 1, .int 2])) sA (.lst [])))
    have cl : (cutV (ns.map V.int) none (some 63)).length ≤ 63 := by
      have := cutV_length (ns.map V.int) none (some 63)
      rw [List.length_map] at this
      omega
    refine ⟨_, _, _, _, rfl, rfl, hp1', upd_same, sz_lit ?_, fun p3 hp3 => ?_⟩
    · show 2 + _ ≤ 1000
      omega
    have u5 := Same.upd (o := HO.lst ([V.int 1, V.int 2] ++ cutV (ns.map V.int) none (some 63))) hp3
    have hints : ∀ v ∈ [V.int 1, V.int 2] ++ cutV (ns.map V.int) none (some 63), v ∈ ([1, 2] ++ ns).map V.int := by
      intro v hv
      rw [List.map_append]
      rcases List.mem_append.mp hv with h | h
      · exact List.mem_append_left _ h
      · exact List.mem_append_right _ (mem_cut h)
    have n3 : p3 ≠ sA := fun e => by
      subst e
      have := u4 _ _ (u3 _ _ (upd_same (a := p3) (o := .lst []) (H := upd H pA (.tup [.int 1, .int 2]))))
      rw [hp3] at this
      cases this
    have nA : pA ≠ sA := fun e => by
      subst e
      rw [upd_same] at hsA
      cases hsA
    have W0 : Sums sA p3 ([V.int 1, V.int 2] ++ cutV (ns.map V.int) none (some 63)) 0 (upd (upd (upd (upd (upd H pA (.tup [.int 1, .int 2])) sA (.lst [])) p1 (.lst [.int 1, .int 2])) p2 (.lst (cutV (ns.map V.int) none (some 63)))) p3 (.lst ([V.int 1, V.int 2] ++ cutV (ns.map V.int) none (some 63)))) pA (1, 2) := by
      refine ⟨upd_same, nA, ⟨u5 _ _ (u4 _ _ (u3 _ _ (u2 _ _ upd_same))), by decide, by decide, by decide⟩, [], [], u5 _ _ (u4 _ _ (u3 _ _ upd_same)), .nil, (fun _ h => nomatch h), Nat.le_refl _, by decide⟩
    refine ⟨p3, _, rfl, SqL.of upd_same, for_it (walk_enum (xs := [V.int 1, V.int 2] ++ cutV (ns.map V.int) none (some 63))) (fun i σ H' => ∃ (pB : Addr) (x : Int × Int) (v3 v4 v5 v6 v7 : Option V), σ = [some (.ref a), some (.ref pB), some (.ref sA), v3, v4, v5, v6, v7] ∧ Sums sA p3 ([V.int 1, V.int 2] ++ cutV (ns.map V.int) none (some 63)) i H' pB x)
      ⟨pA, _, _, _, _, _, _, rfl, W0⟩ (fun i σ H' _ h => ?_) ?_ ?_⟩
    · obtain ⟨pB, x, v3, v4, v5, v6, v7, _, W⟩ := h
      exact SqL.of W.lst
    · rintro i x σ H' H'' hi ⟨pB, xB, v3, v4, v5, v6, v7, rfl, W⟩ ⟨T1, x1, x2, rfl, hT1, rfl, e1, e2⟩
      cases e1
      obtain ⟨z, rfl, _⟩ := get_ints hints e2
      refine ⟨T1, _, rfl, SqT.of upd_same, rfl, _, _, rfl, _, _, rfl, rfl, ?_⟩
      refine ⟨_, rfl, _, rfl, _, _, rfl, fun l H1 hl0 s1 S1 => ?_⟩
      have q1 := (Same.upd (o := HO.tup [.int (i : Nat), .int z]) hT1).trans s1
      have hlF : H' l = none := none_back (Same.upd (o := HO.tup [.int (i : Nat), .int z]) hT1) hl0
      refine ⟨_, rfl, l, rfl, S1, fun p y H2 hp F2 B2 S2 => ?_⟩
      have q2 : Same H' H2 := But.same0 q1 hlF B2
      have W2 := W.same q2
      have np : p ≠ sA := fun e => by
        subst e
        obtain ⟨xs, _, h4, _⟩ := (W.same q1).sm
        rw [hp] at h4
        cases h4
      refine ⟨_, rfl, _, rfl, (by show 2 ≤ sizeLine; decide), fun pl hpl => ?_⟩
      have u6 := Same.upd (o := .lst [.ref pB, .ref p]) hpl
      refine ⟨pl, rfl, ⟨_, SqL.of upd_same⟩, for_it (walk_list (xs := [V.ref pB, V.ref p])) (fun j σ Hj => Same (upd H2 pl (.lst [.ref pB, .ref p])) Hj ∧ ∃ v7, σ = [some (.ref a), some (.ref pB), some (.ref sA), some (.int (i : Nat)), some (.int z), some (.ref l), some (.ref p), v7])
        ⟨.refl _, _, rfl⟩ (fun j σ Hj _ h => SqL.of (h.1 _ _ upd_same)) ?_ ?_⟩
      · rintro j x σ Hj Hj' hj ⟨sm, v7, rfl⟩ ⟨rfl, hx⟩
        have sj := u6.trans sm
        obtain ⟨q, yq, rfl, Fy⟩ : ∃ (q : Addr) (yq : Int × Int), x = .ref q ∧ Fq Hj' q yq 100 := by
          match j, hx with
          | 0, hx =>
            cases hx
            exact ⟨_, _, rfl, W2.one.same sj⟩
          | 1, hx =>
            cases hx
            exact ⟨_, _, rfl, F2.same sj⟩
        have Fp := F2.same sj
        refine ⟨_, rfl, _, rfl, p, q, y, yq, rfl, Fp, Fy, fun H4 s4 => ⟨_, rfl, iteF ?_⟩⟩
        refine ⟨_, rfl, _, rfl, q, p, yq, y, rfl, Fy.same s4, Fp.same s4, fun H5 s5 => ⟨_, rfl, iteF ?_⟩⟩
        exact ⟨(sm.trans s4).trans s5, _, rfl⟩
      · rintro σ H6 ⟨sm, v7, rfl⟩
        have q6 := u6.trans sm
        have W6 := W2.same q6
        have F6 := F2.same q6
        have S6 := S2.same q6
        have hl6 : ∀ {H7 : Hp}, But l H6 H7 → Same H' H7 := fun B => But.same0 (q2.trans q6) hlF B
        have goF : ∀ {H7 : Hp}, But l H6 H7 → Fq H7 p y 100 := fun B => ⟨B _ _ F6.at_ (S1.ne hp), F6.pos, F6.t, F6.b⟩
        refine ⟨_, rfl, ?_⟩
        have W7 : ∀ {H7 : Hp}, But l H6 H7 → Sums sA p3 ([V.int 1, V.int 2] ++ cutV (ns.map V.int) none (some 63)) i H7 pB xB := fun B => W.same (hl6 B)
        have rest : ∀ {H7 : Hp}, But l H6 H7 → Src H7 l → ∀ En : Ends, (∀ σ Hn, (∃ (pB : Addr) (x : Int × Int) (v3 v4 v5 v6 v7 : Option V), σ = [some (.ref a), some (.ref pB), some (.ref sA), v3, v4, v5, v6, v7] ∧ Sums sA p3 ([V.int 1, V.int 2] ++ cutV (ns.map V.int) none (some 63)) (i + 1) Hn pB x) → En.nx σ Hn) →
            tIfS (tTest (tOp (rI0 fun i j => .bl (decide (i < j))) (tVar 3) (tC (.int 21)))) (tDrop (tBM K "list" rAppend (tVar 2) (tCons (tCall spLowest [] E0 (tCons (tOp (rI0 fun i j => .int (i - j)) (tCall spDraw [] E0 (tCons (tVar 5) (tCons (tC (.int 2001)) tNil))) (tC (.int 1000))) (tCons (tOp (rI0 fun i j => .int (i + j)) (tC (.int 1)) (tCall spDraw [] E0 (tCons (tVar 5) (tCons (tC (.int 9)) tNil)))) tNil))) tNil))) tNext En
              [some (.ref a), some (.ref p), some (.ref sA), some (.int (i : Nat)), some (.int z), some (.ref l), some (.ref p), v7] H7 := by
          intro H7 B7 S7 En hE
          refine ⟨_, rfl, _, _, rfl, rfl, _, rfl, itd (fun c => ?_) fun c => ?_⟩
          · obtain ⟨xs0, h40, _⟩ := (W7 B7).push (z := y) n3 (by omega) np (goF B7) np (goF B7)
            refine ⟨_, rfl, .inl ⟨rfl, _, SqL.of h40⟩, _, rfl, l, 2001, rfl, S7, by decide, by decide, fun r8 H8 r80 r81 B8 S8 => ⟨_, _, rfl, rfl, ?_⟩⟩
            refine ⟨_, rfl, l, 9, rfl, S8, by decide, by decide, fun r9 H9 r90 r91 B9 S9 => ⟨_, _, rfl, rfl, ?_⟩⟩
            refine ⟨_, _, rfl, by omega, log_small (n := 40) (by decide) (Nat.lt_of_le_of_lt (show (1 + r9).natAbs ≤ 9 by omega) (by decide)) (by decide), fun pz Hz hpz sz hz => ?_⟩
            have Bz : But l H6 Hz := ((B7.trans B8).trans B9).trans (.of sz)
            obtain ⟨g1, g2, g3⟩ := low_lt (t := r8 - 1000) (b := 1 + r9) (n := 100) (by omega) (Nat.lt_of_le_of_lt (show (r8 - 1000).natAbs ≤ 1001 by omega) (by decide)) (Nat.lt_of_le_of_lt (show (1 + r9).natAbs ≤ 9 by omega) (by decide))
            have nz : pz ≠ sA := fun e => by
              subst e
              obtain ⟨xs1, _, h4, _⟩ := (W7 ((B7.trans B8).trans B9)).sm
              rw [hpz] at h4
              cases h4
            obtain ⟨xs1, h41, sz1, Wn⟩ := (W7 Bz).push (z := lowF (r8 - 1000) (1 + r9)) n3 (by omega) np (goF Bz) nz ⟨hz, g1, g2, g3⟩
            exact ⟨sA, xs1, _, rfl, rfl, h41, sz1, hE _ _ ⟨_, _, _, _, _, _, _, rfl, Wn⟩⟩
          · exact hE _ _ ⟨_, _, _, _, _, _, _, rfl, (W7 B7).next np (goF B7)⟩
        refine ⟨_, rfl, _, _, rfl, rfl, _, rfl, itd (fun c => ?_) fun c => ?_⟩
        · refine ⟨_, rfl, l, 3, rfl, S6, by decide, by decide, fun r7 H7 _ _ B7 S7 => ⟨rfl, _, rfl, itb (fun _ => ?_) fun _ => ?_⟩⟩
          · obtain ⟨xs1, h41, sz1, Wn⟩ := (W7 B7).push (z := y) n3 (by omega) np (goF B7) np (goF B7)
            exact ⟨_, rfl, .inl ⟨rfl, _, SqL.of h41⟩, _, rfl, sA, xs1, _, rfl, rfl, h41, sz1, ⟨_, _, _, _, _, _, _, rfl, Wn⟩⟩
          · refine rest B7 S7 _ ?_; exact fun _ _ h => h
        · refine iteF (rest (.refl _ _) S6 _ ?_); exact fun _ _ h => h
    · rintro σ H' ⟨pB, x, v3, v4, v5, v6, v7, rfl, W⟩
      obtain ⟨xs, ps, h1, h2, h3, _, h4⟩ := W.sm
      exact ⟨_, rfl, sA, xs, ps, rfl, h1, h2.same (Off.sub sA _), h3, h4, fun H' => k H'⟩
end
end Dear

namespace Dear
open PySem PySem.Spec PyProof.Rows L2
theorem walk {l : PySem.W.OpenLaw} {q : Program} {loose : List Str} {XP : (Str → Option Value) → Heap → Prop} {YP : World → Heap → Prop} {d : DefRec} {K : Params → PySem.W.Frag} (hn : l.most = some 63) (hdf : d.params.defaults = [])
    (hY : ∀ (w : World) (h : Heap), YP w h → (K w.params).In h)
    (F : ∀ (w : World) (mg : Str → Option Value) (fa : Addr) (h : Heap), (K w.params).In h → h.Ns mainGlobals mg → mg d.name = some (.ref fa) →
      ∃ fd : FuncData, (∀ (s : Shared) (u : Value), BindsTo s fd ⟨[u], []⟩ [("_law_script", u)]) ∧ ∀ base : Heap, (K w.params).In base → base.Ns mainGlobals mg → FnOk l.prog w (K w.params) mg base CX0 20 fa fd ["_law_script"] (spLaw (K w.params))) :
    PySem.W.WalkO q loose XP YP l.row.toRowW d [] (fun f vs => PySem.call f vs) :=
  L2.walk_of (n := 63) (k := 20) (x := "_law_script") (CX := fun _ => CX0) (sp := fun w => spLaw (K w.params)) hn (by decide) hdf ⟨rfl, by decide, by decide⟩ hY F (fun _ _ a ns hl _ hS => ⟨a, ns, rfl, hS, hl, fun _ => rfl⟩) fun _ _ _ _ _ z => z
theorem fin {l : PySem.W.OpenLaw} {w : World} {K : PySem.W.Frag} {h : Heap} {mg : Str → Option Value} {fa : Addr} (X : K.In h) (G : h.Ns mainGlobals mg) (hfa : mg "law" = some (.ref fa)) (T : Txt K mg) :
    ∃ fd : FuncData, (∀ (s : Shared) (v : Value), BindsTo s fd ⟨[v], []⟩ [("_law_script", v)]) ∧ ∀ base : Heap, K.In base → base.Ns mainGlobals mg → FnOk l.prog w K mg base CX0 20 fa fd ["_law_script"] (spLaw K) := by
  obtain ⟨f, fd, hm, F, hb⟩ := id T.f_law
  have e := hfa.symm.trans hm
  cases e
  refine ⟨fd, fun s v => ?_, fun base _ _ => (ok_law T F).mono (by decide)⟩
  obtain ⟨oc, od, kV, doc, pm, an, cdv, ct, osl, rfl, lk, hcd⟩ := F.ex
  exact .of_eq rfl
end Dear

open PySem PySem.W PyProof.Rows
set_option maxRecDepth 100000 in
set_option maxHeartbeats 0 in
theorem PySem.Challenge.cw_dearsigns_k02_fractions_reckoned_holds : PySem.Challenge.rw_dearsigns_k02_fractions_reckoned.Holds := by
  w_on; o_law; k_head; (case hw => w_witness2)
  k_fill
  refine Dear.walk (l := PySem.Challenge.rw_dearsigns_k02_fractions_reckoned) rfl rfl (fun w h Y => PySem.W.kIn_of Y) ?F
  case F =>
    intro w mg fa h KX G hmg
    refine Dear.fin KX G hmg ?T
    case T =>
      refine' Dear.txt_mk KX G ?g_DearError ?i_DearError ?t_DearError ?g_NoNumber ?i_NoNumber ?t_NoNumber ?g_NoBook ?i_NoBook ?t_NoBook ?g_NoTree ?i_NoTree ?t_NoTree ?g_TooMany ?i_TooMany ?t_TooMany ?g_NoCount ?i_NoCount ?t_NoCount ?g_NoUndo ?i_NoUndo ?t_NoUndo ?g_NoTurn ?i_NoTurn ?t_NoTurn ?g_NoRow ?i_NoRow ?t_NoRow ?g_Unknown ?i_Unknown ?t_Unknown ?g_NoTongue ?i_NoTongue ?t_NoTongue ?g_NoWants ?i_NoWants ?t_NoWants ?g_NoThing ?i_NoThing ?t_NoThing ?g_BadSign ?i_BadSign ?t_BadSign ?g_NoText ?i_NoText ?t_NoText ?b_DearError ?x1_NoNumber ?x2_NoNumber ?x3_NoNumber ?x4_NoNumber ?x5_NoNumber ?x6_NoNumber ?x7_NoNumber ?x8_NoNumber ?x9_NoNumber ?x10_NoNumber ?x11_NoNumber ?q_NoNumber_DearError ?n_NoNumber_DearError ?q_NoNumber_NoNumber ?q_NoNumber_NoBook ?n_NoNumber_NoBook ?q_NoNumber_NoTree ?n_NoNumber_NoTree ?q_NoNumber_TooMany ?n_NoNumber_TooMany ?q_NoNumber_NoCount ?n_NoNumber_NoCount ?q_NoNumber_NoUndo ?n_NoNumber_NoUndo ?q_NoNumber_NoTurn ?n_NoNumber_NoTurn ?q_NoNumber_NoRow ?n_NoNumber_NoRow ?q_NoNumber_Unknown ?n_NoNumber_Unknown ?q_NoNumber_NoTongue ?n_NoNumber_NoTongue ?q_NoNumber_NoWants ?n_NoNumber_NoWants ?q_NoNumber_NoThing ?n_NoNumber_NoThing ?q_NoNumber_BadSign ?n_NoNumber_BadSign ?q_NoNumber_NoText ?n_NoNumber_NoText ?q_NoNumber_ValueError ?a1 ?l1 ?c1 ?k1 ?a2 ?l2 ?c2 ?k2 ?a3 ?l3 ?c3 ?k3 ?a4 ?l4 ?c4 ?k4 ?d4 ?a5 ?l5 ?c5 ?k5 ?a6 ?l6 ?c6 ?k6 ?a7 ?l7 ?c7 ?k7 ?a8 ?l8 ?c8 ?k8 ?a9 ?l9 ?c9 ?k9 ?a10 ?l10 ?c10 ?k10 ?a11 ?l11 ?c11 ?k11 ?a12 ?l12 ?c12 ?k12 ?a13 ?l13 ?c13 ?k13 ?a14 ?l14 ?c14 ?k14 ?a15 ?l15 ?c15 ?k15 ?a16 ?l16 ?c16 ?k16 ?a17 ?l17 ?c17 ?k17 ?a18 ?l18 ?c18 ?k18 ?a19 ?l19 ?c19 ?k19 ?a20 ?l20 ?c20 ?k20 ?a21 ?l21 ?c21 ?k21 ?a22 ?l22 ?c22 ?k22 ?a23 ?a24 ?a25 ?a26 ?a27 ?a28 ?a29 ?a30 ?a31
      (case g_DearError => k_is); (case i_DearError => k_is); (case t_DearError => k_is); (case g_NoNumber => k_is); (case i_NoNumber => k_is); (case t_NoNumber => k_is); (case g_NoBook => k_is); (case i_NoBook => k_is)
      (case t_NoBook => k_is); (case g_NoTree => k_is); (case i_NoTree => k_is); (case t_NoTree => k_is); (case g_TooMany => k_is); (case i_TooMany => k_is); (case t_TooMany => k_is); (case g_NoCount => k_is)
      (case i_NoCount => k_is); (case t_NoCount => k_is); (case g_NoUndo => k_is); (case i_NoUndo => k_is); (case t_NoUndo => k_is); (case g_NoTurn => k_is); (case i_NoTurn => k_is); (case t_NoTurn => k_is)
      (case g_NoRow => k_is); (case i_NoRow => k_is); (case t_NoRow => k_is); (case g_Unknown => k_is); (case i_Unknown => k_is); (case t_Unknown => k_is); (case g_NoTongue => k_is); (case i_NoTongue => k_is)
      (case t_NoTongue => k_is); (case g_NoWants => k_is); (case i_NoWants => k_is); (case t_NoWants => k_is); (case g_NoThing => k_is); (case i_NoThing => k_is); (case t_NoThing => k_is); (case g_BadSign => k_is)
      (case i_BadSign => k_is); (case t_BadSign => k_is); (case g_NoText => k_is); (case i_NoText => k_is); (case t_NoText => k_is); (case b_DearError => k_is); (case x1_NoNumber => k_exc); (case x2_NoNumber => k_is)
      (case x3_NoNumber => k_is); (case x4_NoNumber => k_is); (case x5_NoNumber => k_is); (case x6_NoNumber => k_is); (case x7_NoNumber => k_is); (case x8_NoNumber => k_is); (case x9_NoNumber => k_is); (case x10_NoNumber => k_is)
      (case x11_NoNumber => k_is); (case q_NoNumber_DearError => k_is); (case n_NoNumber_DearError => rfl); (case q_NoNumber_NoNumber => k_is); (case q_NoNumber_NoBook => k_is); (case n_NoNumber_NoBook => rfl); (case q_NoNumber_NoTree => k_is); (case n_NoNumber_NoTree => rfl)
      (case q_NoNumber_TooMany => k_is); (case n_NoNumber_TooMany => rfl); (case q_NoNumber_NoCount => k_is); (case n_NoNumber_NoCount => rfl); (case q_NoNumber_NoUndo => k_is); (case n_NoNumber_NoUndo => rfl); (case q_NoNumber_NoTurn => k_is); (case n_NoNumber_NoTurn => rfl)
      (case q_NoNumber_NoRow => k_is); (case n_NoNumber_NoRow => rfl); (case q_NoNumber_Unknown => k_is); (case n_NoNumber_Unknown => rfl); (case q_NoNumber_NoTongue => k_is); (case n_NoNumber_NoTongue => rfl); (case q_NoNumber_NoWants => k_is); (case n_NoNumber_NoWants => rfl)
      (case q_NoNumber_NoThing => k_is); (case n_NoNumber_NoThing => rfl); (case q_NoNumber_BadSign => k_is); (case n_NoNumber_BadSign => rfl); (case q_NoNumber_NoText => k_is); (case n_NoNumber_NoText => rfl); (case q_NoNumber_ValueError => k_is); (case a1 => k_is)
      (case l1 => k_is); (case c1 => k_is); (case k1 => k_is); (case a2 => k_is); (case l2 => k_is); (case c2 => k_is); (case k2 => k_is); (case a3 => k_is)
      (case l3 => k_is); (case c3 => k_is); (case k3 => k_is); (case a4 => k_is); (case l4 => k_is); (case c4 => k_is); (case k4 => k_is); (case d4 => k_is)
      (case a5 => k_is); (case l5 => k_is); (case c5 => k_is); (case k5 => k_is); (case a6 => k_is); (case l6 => k_is); (case c6 => k_is); (case k6 => k_is)
      (case a7 => k_is); (case l7 => k_is); (case c7 => k_is); (case k7 => k_is); (case a8 => k_is); (case l8 => k_is); (case c8 => k_is); (case k8 => k_is)
      (case a9 => k_is); (case l9 => k_is); (case c9 => k_is); (case k9 => k_is); (case a10 => k_is); (case l10 => k_is); (case c10 => k_is); (case k10 => k_is)
      (case a11 => k_is); (case l11 => k_is); (case c11 => k_is); (case k11 => k_is); (case a12 => k_is); (case l12 => k_is); (case c12 => k_is); (case k12 => k_is)
      (case a13 => k_is); (case l13 => k_is); (case c13 => k_is); (case k13 => k_is); (case a14 => k_is); (case l14 => k_is); (case c14 => k_is); (case k14 => k_is)
      (case a15 => k_is); (case l15 => k_is); (case c15 => k_is); (case k15 => k_is); (case a16 => k_is); (case l16 => k_is); (case c16 => k_is); (case k16 => k_is)
      (case a17 => k_is); (case l17 => k_is); (case c17 => k_is); (case k17 => k_is); (case a18 => k_is); (case l18 => k_is); (case c18 => k_is); (case k18 => k_is)
      (case a19 => k_is); (case l19 => k_is); (case c19 => k_is); (case k19 => k_is); (case a20 => k_is); (case l20 => k_is); (case c20 => k_is); (case k20 => k_is)
      (case a21 => k_is); (case l21 => k_is); (case c21 => k_is); (case k21 => k_is); (case a22 => k_is); (case l22 => k_is); (case c22 => k_is); (case k22 => k_is)
      (case a23 => k_is); (case a24 => k_is); (case a25 => k_is); (case a26 => k_is); (case a27 => k_is); (case a28 => k_is); (case a29 => k_is); (case a30 => k_is)
      (case a31 => k_is)
#print axioms PySem.Challenge.cw_dearsigns_k02_fractions_reckoned_holds

