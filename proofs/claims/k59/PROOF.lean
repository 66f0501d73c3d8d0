import PyProof.Rows.All
import Wide.All
import OpenK.AllK
import Wide.FinOn
import HandS.ForMost
import HandS.Wide
import HandS.IsInst
import HandS.Flow
import HandS.Walk
import HandS.Strs
import HandS.Style
import HandS.Exc
import HandS.Codes
import HandS.ForExc
import HandS.ExcIs
import HandS.Defaults
import HandS.ExcInit
import HandS.FStr
import HandS.ExcField
import HandS.TryOnly
import HandS.Conv
import HandS.More
import KE.KIntText
import KE.GoesZip
import Flt.Len
import PySem.Challenge.RW_dearsigns_k59_factors
set_option Elab.async false
set_option linter.all false
set_option maxRecDepth 100000
set_option maxHeartbeats 4000000

namespace Dear
open PySem PySem.Spec PyProof.Rows L2
/-! ### a def of the text, and a def with its promise -/
def Df (K : PySem.W.Frag) (mg : Str → Option Value) (x : Str) (st : Stmt) (ps : List Str) : Prop :=
  ∃ (f : Addr) (fd : FuncData), mg x = some (.ref f) ∧ Fun K x x st f fd ∧ Binds K fd ps []
def OkF (P : Program) (w : World) (K : PySem.W.Frag) (mg : Str → Option Value) (base : Heap) (CX : CXT) (k : Nat) (x : Str) (ps : List Str) (sp : Sp) : Prop :=
  ∃ (f : Addr) (fd : FuncData), mg x = some (.ref f) ∧ PySem.W.keepIn K (.ref f) = true ∧ Binds K fd ps [] ∧ FnOk P w K mg base CX k f fd ps sp
section
variable {P : Program} {w : World} {K : PySem.W.Frag} {mg : Str → Option Value} {base : Heap}
theorem Df.ok {x : Str} {st : Stmt} {N ps : List Str} {k : Nat} {sp : Sp} (D : Df K mg x st ps) (S : FnScope N ps (defScope st)) (len : ∀ vs H Q E, sp vs H Q E → vs.length = ps.length)
    (hbody : ∀ (f : Addr) (cdv : Value) (A : Around) (outer : List Env) (s : Shared) (H : Hp) (vs : List V) (Q : VK) (E : XK), Room k (A.deeper (envOfC x (defScope st) s.heap.objs.size f cdv)) → sp vs H Q E →
      ∃ t, PSs (cxOf CX0 P w K mg base N x (defScope st) f cdv A outer s H E).nox (defBody st) t ∧ t { nx := fun _ H' => Q .non H', rt := Q } (start N vs) H) : OkF P w K mg base CX0 (k + 1) x ps sp := by
  obtain ⟨f, fd, hm, F, hb⟩ := D
  exact ⟨f, fd, hm, F.kp, hb, F.ok S len (hbody f)⟩
end
section
variable {X : Cx}
theorem pe_c {k k' : Nat} {x : Str} {ps : List Str} {sp : Sp} {e : Expr} {es : List Expr} {t : TA} {p pos : Pos} (O : OkF X.prog X.w X.K X.mg X.base CX0 k x ps sp) (hr : Room k' X.A) (ha : PA X (e :: es) t) (hk : k ≤ k' := by decide) (hg : Gl X x := by rfl)
    (hdb : (x == ("__debug__" : Str)) = false := by decide) (he : starEach (e :: es) X.env = (false, eval e X.env) :: starEach es X.env := by rfl) (hpl : (backTo pos (starEach es X.env)).any (·.1) = false := by rfl) :
    PE X (.Call (.Name x p) (e :: es) [] pos) (tCall sp [] E0 t) := by
  obtain ⟨f, fd, hm, hkp, hb, F⟩ := O
  exact pe_call F (hr.mono hk) hg hm hkp hb .nil pass0 ha hdb he hpl
theorem pe_gi {x : Str} {i : Int} {pos : Pos} (h : ∃ t, X.mg x = some (.int i t)) (hg : Gl X x := by rfl) (hd : (x == ("__debug__" : Str)) = false := by decide) : PE X (.Name x pos) (tC (.int i)) := by
  obtain ⟨t, h⟩ := h
  exact pe_glob hg h ⟨_, rfl⟩ hd
theorem pe_gs {x : Str} {z : Str} {pos : Pos} (h : ∃ t, X.mg x = some (.str z t)) (hg : Gl X x := by rfl) (hd : (x == ("__debug__" : Str)) = false := by decide) : PE X (.Name x pos) (tC (.str z)) := by
  obtain ⟨t, h⟩ := h
  exact pe_glob hg h ⟨_, rfl⟩ hd
end
/-! ### the rules with the written part K named -/
section
variable {X : Cx} (K : PySem.W.Frag)
theorem ix_list_k (h : X.K = K := by rfl) : IxR X (rIxL K) := h ▸ ix_list
theorem ix_tup_k (h : X.K = K := by rfl) : IxR X (rIxT K) := h ▸ ix_tup
theorem sl_list_k (h : X.K = K := by rfl) : SlR X (rSlL K) := h ▸ sl_list
theorem sl_tup_k (h : X.K = K := by rfl) : SlR X (rSlT K) := h ▸ sl_tup
theorem op_in_seq_k (h : X.K = K := by rfl) : OpR X (compareOp .In) (rIn K false) := h ▸ op_in_seq
theorem op_notIn_seq_k (h : X.K = K := by rfl) : OpR X (compareOp .NotIn) (rIn K true) := h ▸ op_notIn_seq
def rLen : List V → Hp → VK → Prop := fun xs H Q => ∃ p ys, xs = [.ref p] ∧ (SqL K H p ys ∨ SqT K H p ys) ∧ Q (.int ys.length) H
theorem call_len_seq_k (h : X.K = K := by rfl) : CallR X (.builtin "len") (rLen K) := h ▸ call_len_seq
def rListOf : List V → Hp → VK → Prop := fun xs H Q => ∃ p ys, xs = [.ref p] ∧ (SqL K H p ys ∨ SqT K H p ys) ∧ ∀ l, H l = none → Q (.ref l) (upd H l (.lst ys))
theorem call_list_of_k (h : X.K = K := by rfl) : CallR X (.type "list") (rListOf K) := h ▸ call_list_of
def rTupOf : List V → Hp → VK → Prop := fun xs H Q => ∃ p ys, xs = [.ref p] ∧ ((SqL K H p ys ∧ ∀ l, H l = none → Q (.ref l) (upd H l (.tup ys))) ∨ (SqT K H p ys ∧ Q (.ref p) H))
theorem call_tuple_of_k (h : X.K = K := by rfl) : CallR X (.type "tuple") (rTupOf K) := h ▸ call_tuple_of
theorem cr_sum_k (hc : X.calm = true) (h : X.K = K := by rfl) : CallR X (.builtin "sum") (rSum K) := h ▸ cr_sum hc
theorem cr_max_k (hc : X.calm = true) (h : X.K = K := by rfl) : CallR X (.builtin "max") (rMax K) := h ▸ cr_max hc
theorem cr_min_k (hc : X.calm = true) (h : X.K = K := by rfl) : CallR X (.builtin "min") (rMin K) := h ▸ cr_min hc
theorem cr_any_k (hc : X.calm = true) (h : X.K = K := by rfl) : CallR X (.builtin "any") (rAny K) := h ▸ cr_any hc
theorem cr_all_k (hc : X.calm = true) (h : X.K = K := by rfl) : CallR X (.builtin "all") (rAll K) := h ▸ cr_all hc
theorem cr_sorted_k (h : X.K = K := by rfl) : CallR X (.builtin "sorted") (rSorted K) := h ▸ cr_sorted
theorem mt_index_k (h : X.K = K := by rfl) : MtR X "list.index" (rIndex K) := h ▸ mt_index
theorem op_eqD_k (hu : X.A.units + 64 < cLine) (h : X.K = K := by rfl) : OpR X (compareOp .Eq) (rEqD K) := h ▸ op_eqD hu
theorem op_neD_k (hu : X.A.units + 64 < cLine) (h : X.K = K := by rfl) : OpR X (compareOp .NotEq) (rNeD K) := h ▸ op_neD hu
theorem call_isi_k (h : X.K = K := by rfl) : CallR X (.builtin "isinstance") (rIsi K) := h ▸ call_isi
theorem call_isiT_k (h : X.K = K := by rfl) : CallR X (.builtin "isinstance") (rIsiT K) := h ▸ call_isiT
theorem op_catT_k (h : X.K = K := by rfl) : OpR X (binaryOp .Add) (rCatT K) := h ▸ op_catT
theorem pi_list_k {tg l : Expr} {tl : TE} (hl : PE X l tl) (h : X.K = K := by rfl) : PI X tg l (iList K tl) := h ▸ pi_list hl
theorem pi_tup_k {tg l : Expr} {tl : TE} (hl : PE X l tl) (h : X.K = K := by rfl) : PI X tg l (iTup K tl) := h ▸ pi_tup hl
theorem pe_revL_k {e : Expr} {te : TE} {k : Nat} {p1 p2 p3 pos : Pos} (he : PE X e te) (h : X.K = K := by rfl) : PE X (.Subscript e (.Slice none none (some (.UnaryOp .USub (.Constant (.int 1) k p1) p2)) p3) pos) (tRevL K te) := h ▸ pe_revL he
theorem pg_tup_k {es : List Expr} {k : Nat} {t : TGs} {n : Nat} {pos : Pos} (hc : X.calm = true) (hg : PGs X es t) (h : X.K = K := by rfl)
    (hn : (assignEach es X.env).length = n := by rfl) (hst : (assignEach es X.env).findIdx? (·.1) = none := by rfl) : PG X (.Tuple es k pos) (gTup K n t) := h ▸ pg_tup hc hg hn hst
def rDictP : List V → Hp → VK → Prop := fun xs H Q => ∃ (a : Addr) (ps : List Addr) (kvs : List (Key × V)), xs = [.ref a] ∧ SqL K H a (ps.map V.ref) ∧ Paired (fun p kv => SqT K H p [kV kv.1, kv.2]) ps kvs ∧
    ∀ p, H p = none → Q (.ref p) (upd H p (.dK (mergeK [] kvs)))
theorem call_dictP_k (hc : X.calm = true) (h : X.K = K := by rfl) : CallR X (.type "dict") (rDictP K) := h ▸ call_dictP hc
theorem u1 {n : Nat} (h : n + 64 < cLine) : n + 1 < cLine := by omega
def rJoin : V → List V → Hp → VK → Prop := fun x xs H Q => ∃ a p, ∃ ys : List Str, x = .str a ∧ xs = [.ref p] ∧ (SqL K H p (ys.map V.str) ∨ SqT K H p (ys.map V.str)) ∧ (ys.map (·.length)).sum + ys.length * a.length ≤ 16777216 ∧ Q (.str (Txt.join a ys)) H
theorem pe_join_k {o e : Expr} {to te : TE} {apos pos : Pos} (ho : PE X o to) (he : PE X e te) (h : X.K = K := by rfl) (hs : starEach [e] X.env = [(false, eval e X.env)] := by rfl) (hbase : attributeBase o "join" X.env (eval o X.env) = eval o X.env := by rfl) (hline : (apos.endLine == pos.line) = true := by rfl) :
    PE X (.Call (.Attribute o "join" apos) [e] [] pos) (tM1 (rJoin K) to te) := h ▸ pe_join ho he hs hbase hline
end
/-! ### heaps -/
/-- all that was tracked, but for what stands at l, is as it was -/
def But (l : Addr) (H H' : Hp) : Prop := ∀ b o, H b = some o → b ≠ l → H' b = some o
theorem But.refl (l : Addr) (H : Hp) : But l H H := fun _ _ h _ => h
theorem But.trans {l : Addr} {H H1 H2 : Hp} (a : But l H H1) (b : But l H1 H2) : But l H H2 := fun c o h n => b c o (a c o h n) n
theorem But.of {l : Addr} {H H1 : Hp} (a : Same H H1) : But l H H1 := fun c o h _ => a c o h
theorem But.upd {l : Addr} {H : Hp} {o : HO} : But l H (upd H l o) := fun b _ h n => by rw [upd_ne n]; exact h
theorem Same.upd {H : Hp} {l : Addr} {o : HO} (h : H l = none) : Same H (upd H l o) := fun b u e => by
  rw [upd_ne (ne_of_none e h)]
  exact e
theorem But.new {l : Addr} {H H1 : Hp} {p : Addr} {o : HO} (a : But l H H1) (h : H1 p = none) : But l H (L2.upd H1 p o) := a.trans (.of (Same.upd h))
theorem Same.new {H H1 : Hp} {p : Addr} {o : HO} (a : Same H H1) (h : H1 p = none) : Same H (L2.upd H1 p o) := a.trans (Same.upd h)
/-- the ends of an if -/
theorem itb {b : Bool} {A B : Prop} (h1 : b = true → A) (h2 : b = false → B) : if b = true then A else B := by
  cases b with
  | true => exact iteT (h1 rfl)
  | false => exact iteF (h2 rfl)
theorem itd {c : Prop} [Decidable c] {A B : Prop} (h1 : c → A) (h2 : ¬ c → B) : if decide c = true then A else B := itb (fun h => h1 (of_decide_eq_true h)) fun h => h2 (of_decide_eq_false h)
theorem itnd {c : Prop} [Decidable c] {A B : Prop} (h1 : ¬ c → A) (h2 : c → B) : if (!decide c) = true then A else B := itb (fun h => h1 (by simpa using h)) fun h => h2 (by simpa using h)
/-! ### readings, step by step -/
section
variable {σ : L2.St} {H : Hp} {D : Ends} {t1 t2 : TS} {te : TE} {i : Nat} {c : TT}
theorem s_seq (h : t1 { D with nx := t2 D } σ H) : tSeq t1 t2 D σ H := h
theorem s_set (h : te σ H fun v H' => D.nx (σ.set i (some v)) H') : tAsg te (gName i) D σ H := h
theorem s_ret (h : te σ H D.rt) : tRet te D σ H := h
theorem s_if (h : c σ H fun b H' => if b = true then t1 D σ H' else t2 D σ H') : tIfS c t1 t2 D σ H := h
theorem s_op {r : R2} {ta tb : TE} {Q : VK} (h : ta σ H fun x H1 => tb σ H1 fun y H2 => r x y H2 Q) : tOp r ta tb σ H Q := h
theorem s_nx (h : D.nx σ H) : tNext D σ H := h
end
end Dear

namespace Dear
open PySem PySem.Spec PyProof.Rows L2
/-! ### an exception that is caught, kept in a name, and asked behind the suite -/
/-- a kept exception at a: its class, its own dict -/
def ExK (cls : Value) (d : Option Addr) (a : Addr) : HO := .ext fun h => ∃ (oe : Obj) (vs : Array Value), h.get? a = some oe ∧ Zc cls d oe ∧ oe.data = .fields vs
theorem exK_ok {P : Program} {w : World} {H : Hp} {h : Heap} {a : Addr} {cls : Value} {d : Option Addr} {oe : Obj} {vs : Array Value} (e : h.get? a = some oe) (z : Zc cls d oe) (dt : oe.data = .fields vs) : ObjOk P w H h a (ExK cls d a) :=
  ⟨⟨oe, vs, e, z, dt⟩, ⟨oe, e⟩, fun _ _ ⟨o, v, q, r⟩ k => ⟨o, v, k o q, r⟩⟩
section
variable {X : Cx} {pins : List (Addr × Obj)} {σ : L2.St} {H : Hp} {s : Shared}
/-- an object that stands there untracked, new since the entry, becomes tracked -/
theorem track (I : Inv X pins σ H s) {a : Addr} {o : HO} {oe : Obj} (he : s.heap.get? a = some oe) (na : H a = none) (n0 : X.s_0.heap.get? a = none) (nL : a ≠ X.env.locals) (nC : ∀ v, oe.data ≠ .cell v)
    (nP : ∀ p ∈ X.pn ++ pins, p.1 ≠ a) (new : ObjOk X.prog X.w (upd H a o) s.heap a o) : Inv X pins σ (upd H a o) s where
  ok := I.ok
  os := I.os
  bare := I.bare
  base := {
    keep := I.base.keep
    slot := I.base.slot
    free := fun b u q n hx => by
      rw [upd_ne fun z => by rw [z, n0] at q; cases q]
      exact I.base.free b u q n hx
    there := I.base.there
    tups := fun b xs q => by
      have z := I.base.tups b xs q
      rw [upd_ne (ne_of_none z na)]
      exact z
    frzs := fun b u v q => by
      have z := I.base.frzs b u v q
      rw [upd_ne (ne_of_none z na)]
      exact z
    tbls := fun b ps q => by
      obtain ⟨m, z⟩ := I.base.tbls b ps q
      exact ⟨m, by rw [upd_ne (ne_of_none z na)]; exact z⟩ }
  loc := I.loc
  cell := I.cell
  free := by rw [upd_ne (Ne.symm nL)]; exact I.free
  freeC := fun x c e => by
    have ne : c ≠ a := fun z => by
      obtain ⟨v, ob, q, dq⟩ := I.cell x c e
      rw [z, he] at q
      cases q
      exact nC v dq
    rw [upd_ne ne]
    exact I.freeC x c e
  pin := fun p hp => by
    obtain ⟨p1, p2, p3⟩ := I.pin p hp
    exact ⟨p1, by rw [upd_ne (nP p hp)]; exact p2, p3⟩
  hok := fun b u e => by
    by_cases hb : b = a
    · subst hb
      rw [upd_same] at e
      cases e
      exact new
    · rw [upd_ne hb] at e
      exact (I.hok b u e).stay (fun _ _ _ q => q) (fun c q => by rw [upd_ne (ne_of_none q na)]; exact q) fun c xs q => by rw [upd_ne (ne_of_none q na)]; exact q
  len := I.len
end
/-- what «except x as n: y = n» wishes of an exception of the body: n's slot is i, y's is j; behind it the exception stands tracked -/
def wKept (K : PySem.W.Frag) (c : Value) (i j : Nat) (Wout : WX) (D : Ends) : WX := fun cls d σ H =>
  ∃ b, PySem.W.exmOne K cls c = some b ∧ (b = true → ∀ a, H a = none → D.nx (((σ.set i (some (.ref a))).set j (some (.ref a))).set i none) (upd H a (ExK cls d a))) ∧ (b = false → Wout cls d σ H)
section
variable {X : Cx} {x n y : Str} {c : Value} {i j : Nat} {body : List Stmt} {np pos pos2 p3 p4 p5 : Pos} {tb : WX → TS} {Wout : WX}
theorem ps_try_kept (hs : X.stack = X.env :: X.outer) (hf : X.env.frame = some X.env.locals) (hex : X.ex = []) (hN : X.N.Nodup) (hi : X.N[i]? = some n) (hj : X.N[j]? = some y) (hij : i ≠ j) (hln : X.env.kindOf n = some .local) (hly : X.env.kindOf y = some .local) (hc : Names X x c) (tk : Takes X Wout)
    (hb : ∀ (W : WX) (pn : List (Addr × Obj)) (xe : Value → Shared → Prop), Takes (X.tr pn xe) W → PassesOwn (model X.prog X.w) X.A X.env xe → PSs (X.tr pn xe) body (tb W))
    (hdn : (n == ("__debug__" : Str)) = false := by decide) (hcd : (n == ("__classdict__" : Str)) = false := by decide) :
    PS X (.Try body [.ExceptHandler (some (.Name x np)) (some n) [.Assign [.Name y p3] (.Name n p4) p5] pos2] [] [] pos) (fun D σ H => tb (wKept X.K c i j Wout D) D σ H) := by
  refine ⟨fun pins s σ H D I h => ?_⟩
  have ok := I.ok
  have frames : X.A.frames = some (X.env :: X.outer) := by rw [ok.frames, hs]
  refine wpAny_Try_except (wpAny_mono ((hb (wKept X.K c i j Wout D) (X.pn ++ pins) _ (fun u s1 air => ?_) PassesOwn.looking).run [] s σ H D (I.toTry _) h) (fun f s1 done => ?_) fun _ _ z => z)
  · obtain ⟨a, B, sI, pins', σ1, H1, cls, d, rfl, J1, nb, up, sky, na, os, ag, b, hm, yes, no⟩ := air
    have J : Inv X pins σ1 H1 sI := J1.ofTry ok
    rw [show X.stack = X.env :: X.outer from hs] at sky
    refine Sky.land Zc.steady frames hf sky fun h3 fl3 up3 => ?_
    have J3 : Inv X pins σ1 H1 { s1 with heap := h3 } := J.landed nb fl3.1 (up.trans up3) os ag
    obtain ⟨oe3, vs3, he3, hz3, hd3⟩ := fl3.there
    have nfr : a ∉ frs (X.env :: X.outer) := fun hm => by
      obtain ⟨_, o', e', hnf⟩ := fl3.2.2.1.mem hm
      rw [he3] at e'
      cases e'
      exact hnf _ hd3
    have nL : a ≠ X.env.locals := fun z => nfr (List.mem_filterMap.mpr ⟨X.env, List.mem_cons_self, by rw [hf, z]⟩)
    have nF : a ∉ X.fs := fun hm => by
      obtain ⟨e, he, q⟩ := List.mem_filterMap.mp hm
      exact nfr (List.mem_filterMap.mpr ⟨e, List.mem_cons_of_mem _ he, q⟩)
    -- it is new: neither there at the entry nor pinned
    have gone : ∀ o, sI.heap.get? a ≠ some o := fun o q => by
      have z := nb a o q (by rw [hs]; exact nfr)
      rw [fl3.2.1] at z
      cases z
    have n0 : X.s_0.heap.get? a = none := by
      cases q : X.s_0.heap.get? a with
      | none => rfl
      | some o =>
        obtain ⟨o', q'⟩ := J.base.there a o q (by rw [hex]; simp)
        exact absurd q' (gone o')
    have nP : ∀ p ∈ X.pn ++ pins, p.1 ≠ a := fun p hp z => gone p.2 (z ▸ (J.pin p hp).1)
    have S3 := J3.suite he3 hd3 na nL nF
    refine wpAny_handleBy_cons (codeAny_handlers_test ?_) (by intro q; cases q)
    have LT : PySem.W.Looks (model X.prog X.w) h3 (typeOf (.ref a)) cls := fun _ _ _ _ k q => wpAny_typeOf_ref (k _ _ he3) (by rw [hz3.1]; exact q)
    have LM := PySem.W.exm_one (M := model X.prog X.w) J3.kIn LT hm
    have named : ∀ {Q : Value → Shared → Prop} {E : Value → Shared → Prop}, Q c { s1 with heap := h3 } → wpAny (model X.prog X.w) (X.A.mark (some (.ref a))) (eval (.Name x np) X.env) Q E { s1 with heap := h3 } := fun {Q E} q => by
      obtain ⟨hg, hdbg, hm | ⟨hm, hv, hnn⟩⟩ := hc
      · exact ld_glob (X := X.suite a ((a, oe3) :: (X.pn ++ pins))) S3 hg hm q hdbg
      · exact ld_blt (X := X.suite a ((a, oe3) :: (X.pn ++ pins))) S3 hg hm hv q hnn hdbg
    refine named (LM.here ?_)
    cases b with
    | true =>
      refine codeAny_handlers_suite_as (HandSPX.lands_againZ fl3 fun h4 fl4 up4 => ?_)
      have J4 : Inv X pins σ1 H1 { s1 with heap := h4 } := J.landed nb fl4.1 ((up.trans up3).trans up4) os ag
      obtain ⟨oe4, vs4, he4, hz4, hd4⟩ := fl4.there
      refine store_ok (X := X.suite a ((a, oe4) :: (X.pn ++ pins))) (v := .ref a) (J4.suite he4 hd4 na nL nF) hN hi (.inl hln) rfl (fun s5 S5 => ?_) (.inr hln)
      have suite : PSs (X.suite a ((a, oe4) :: (X.pn ++ pins))) [.Assign [.Name y p3] (.Name n p4) p5] (tAsg (tVar i) (gName j)) := pss_one (ps_set hN hj (.inl hly) (pe_var hi (.inl hln) hdn hcd) (hf := .inr hly))
      have len1 : i < σ1.length := by
        rw [J.len]
        exact (List.getElem?_eq_some_iff.mp hi).1
      refine wpAny_mono (suite.run [] s5 _ H1 { nx := fun σ' H' => σ' = (σ1.set i (some (.ref a))).set j (some (.ref a)) ∧ H' = H1, rt := fun _ _ => False } S5 ⟨.ref a, by rw [List.getElem?_set_self len1], rfl, rfl⟩) (fun f s6 done => ?_) fun _ _ z => z.elim
      cases f with
      | next =>
        obtain ⟨σ6, H6, S6, rfl, rfl⟩ := done
        have he6 := (S6.pin (a, oe4) (List.mem_append_left _ List.mem_cons_self)).1
        refine gone_ok (track (S6.unsuite ok) (o := ExK cls d a) he6 na n0 nL (fun v q => by rw [hd4] at q; cases q) nP (exK_ok he6 hz4 hd4)) hN hi hln fun s7 J7 => ⟨_, _, J7, yes rfl a na⟩
      | brk =>
        obtain ⟨_, _, _, z⟩ := done
        exact z.elim
      | cont =>
        obtain ⟨_, _, _, z⟩ := done
        exact z.elim
      | ret u =>
        obtain ⟨_, _, _, _, _, z⟩ := done
        exact z.elim
    | false =>
      show wpAny _ X.A (handleBy (.ref a) X.env []) _ _ _
      refine wpAny_handleBy_nil ?_
      obtain ⟨_, _, _, oe, vs, T, _, _, he, _, hd, h1, _⟩ := id fl3
      unfold PySem.passOn
      refine wpAny_bind (wpAny_field he hd h1 ?_)
      rw [if_neg (show ¬ ((Value.ref T == Value.none) = true) from by simp)]
      have fin : wpAny (model X.prog X.w) X.A (setFlight (.ref a) X.env.frame) (fun _ s4 => wpAny (model X.prog X.w) X.A (throw (.ref a) : Sem Flow) (SP X pins D) X.xe s4) X.xe { s1 with heap := h3 } := by
        rw [hf]
        exact HandSPX.setFlight_upZ fl3 fun h4 hh4 up4 => wpAny_throw (tk _ _ ⟨a, B, sI, pins, σ1, H1, cls, d, rfl, J, nb, (up.trans up3).trans up4, .inr (.inr (by rw [hs]; exact hh4)), na, os, ag, no rfl⟩)
      first
        | exact wpAny_bind (wpAny_pure (wpAny_bind fin))
        | exact wpAny_bind fin
  · cases f with
    | next =>
      obtain ⟨σ', H', J', q⟩ := done
      exact wpAny_execs_nil ⟨σ', H', J'.ofTry ok, q⟩
    | brk =>
      obtain ⟨σ', H', J', q⟩ := done
      exact ⟨σ', H', J'.ofTry ok, q⟩
    | cont =>
      obtain ⟨σ', H', J', q⟩ := done
      exact ⟨σ', H', J'.ofTry ok, q⟩
    | ret u =>
      obtain ⟨v, σ', H', J', r, q⟩ := done
      exact ⟨v, σ', H', J'.ofTry ok, r, q⟩
end
/-! ### isinstance of a kept exception -/
/-- the object as the library's rules want it -/
theorem instAt_kept {h : Heap} {a D : Addr} {oe : Obj} {vs : Array Value} (e : h.get? a = some oe) (z : Zc (.ref D) none oe) (d : oe.data = .fields vs) : PySem.W.InstAt h a oe D none := by
  obtain ⟨oc, od, oda, osl⟩ := oe
  obtain ⟨h1, h2⟩ := z
  dsimp only at h1 h2 d
  subst h1 h2 d
  exact ⟨e, rfl, rfl, trivial⟩
def rIsX (K : PySem.W.Frag) : List V → Hp → VK → Prop := fun xs H Q => ∃ (a D : Addr) (c : V) (u : Value) (b : Bool), xs = [.ref a, c] ∧ H a = some (ExK (.ref D) none a) ∧ ExcC K D ∧ ClsV c u ∧ PySem.W.kitOne K (.ref D) u = some b ∧ Q (.bl b) H
def rIsXT (K : PySem.W.Frag) : List V → Hp → VK → Prop := fun xs H Q => ∃ (a D tp : Addr) (cs : List V) (us : List Value) (b : Bool), xs = [.ref a, .ref tp] ∧ H a = some (ExK (.ref D) none a) ∧ ExcC K D ∧ H tp = some (.tup cs) ∧ Paired ClsV cs us ∧ PySem.W.kitAny K (.ref D) us = some b ∧ Q (.bl b) H
section
variable {X : Cx} (K : PySem.W.Frag)
theorem call_isX_k (hk : X.K = K := by rfl) : CallR X (.builtin "isinstance") (rIsX K) := by
  subst hk
  intro pins s σ H xs us Q I r h
  obtain ⟨a, D, c, u, b, rfl, ha, C, k, e, q⟩ := h
  obtain ⟨u1, u2, rfl, r1, r2⟩ := vals2 r
  have e2 := k.eq r2
  subst e2
  cases r1
  obtain ⟨⟨oe, vs, he, hz, hd⟩, _⟩ := I.hok a _ ha
  exact PySem.W.kia_one (PySem.W.handS_kitx_exc C.hg C.hk C.hs C.hd C.ha C.hn C.ht C.hm) I.kIn (instAt_kept he hz hd) e (fun z => nomatch z) fun tk => ⟨.bl b, H, I.tok tk, rfl, q⟩
theorem call_isXT_k (hk : X.K = K := by rfl) : CallR X (.builtin "isinstance") (rIsXT K) := by
  subst hk
  intro pins s σ H xs us Q I r h
  obtain ⟨a, D, tp, cs, ws, b, rfl, ha, C, hT, k, e, q⟩ := h
  obtain ⟨u1, u2, rfl, r1, r2⟩ := vals2 r
  cases r1
  cases (show u2 = Value.ref tp from r2)
  obtain ⟨⟨oe, vs, he, hz, hd⟩, _⟩ := I.hok a _ ha
  obtain ⟨_, its, rv, o, h1, h2, n, h3⟩ := (show ObjOk X.prog X.w H s.heap tp (.tup cs) from I.hok tp _ hT)
  have e3 := ClsV.all k rv
  subst e3
  obtain ⟨oc, od, dt, sl⟩ := o
  simp only at h2 h3
  subst h2 h3
  exact PySem.W.kia_tup (PySem.W.handS_kitx_exc C.hg C.hk C.hs C.hd C.ha C.hn C.ht C.hm) I.kIn (instAt_kept he hz hd) h1 e (fun z => nomatch z) fun tk => ⟨.bl b, H, I.tok tk, rfl, q⟩
end
/-! ### facts of own exception classes, calls of defs that raise, defs with defaults -/
/-- an own exception class over ValueError, without an own __init__ -/
structure ExOwn (K : PySem.W.Frag) (mg : Str → Option Value) (x : Str) (C : Addr) : Prop where
  g : mg x = some (.ref C)
  x : PySem.W.excIn K C [.type "ValueError", .type "Exception", .type "BaseException", .type "object"] "ValueError.__new__" = true
  k : PySem.W.keepIn K (.ref C) = true
  b : PySem.W.subIn K (.ref C) (.type "BaseException") = some true
  t : PySem.W.typeIn K (.ref C) = some (.type "type")
  c : ExcC K C
theorem kit_ref {K : PySem.W.Frag} {A C : Addr} {b : Bool} (n : (Value.ref A == Value.ref C) = false) (i : PySem.W.isClsIn K C = true) (t : PySem.W.typeIn K (.ref C) = some (.type "type")) (q : PySem.W.subIn K (.ref A) (.ref C) = some b) : PySem.W.kitOne K (.ref A) (.ref C) = some b := by
  unfold PySem.W.kitOne
  rw [if_neg (by rw [n]; exact Bool.false_ne_true)]
  have i' : (PySem.W.clsIn K C).isSome = true := i
  show (if ((PySem.W.clsIn K C).isSome && PySem.W.typeIn K (.ref C) == some (.type "type")) = true then PySem.W.subIn K (.ref A) (.ref C) else none) = some b
  rw [i', t, if_pos (by simp)]
  exact q
theorem kit_self {K : PySem.W.Frag} {C : Addr} : PySem.W.kitOne K (.ref C) (.ref C) = some true := by
  unfold PySem.W.kitOne
  rw [if_pos (by simp)]
theorem kit_val {K : PySem.W.Frag} {A : Addr} (q : PySem.W.subIn K (.ref A) (.type "ValueError") = some true) : PySem.W.kitOne K (.ref A) (.type "ValueError") = some true := by
  unfold PySem.W.kitOne
  rw [if_neg (by simp)]
  have m : PySem.W.kitMeta "ValueError" = true := by decide +kernel
  show (if PySem.W.kitMeta "ValueError" = true then PySem.W.subIn K (.ref A) (.type "ValueError") else none) = some true
  rw [if_pos m]
  exact q
theorem exm_ref2 {K : PySem.W.Frag} {A C : Addr} {b : Bool} (h1 : PySem.W.subIn K (.ref C) (.type "BaseException") = some true) (i : PySem.W.isClsIn K C = true) (t : PySem.W.typeIn K (.ref C) = some (.type "type")) (q : PySem.W.subIn K (.ref A) (.ref C) = some b) : PySem.W.exmOne K (.ref A) (.ref C) = some b := by
  have i' : (PySem.W.clsIn K C).isSome = true := i
  show (if (PySem.W.subIn K (.ref C) (.type "BaseException") == some true) = true then (if ((PySem.W.clsIn K C).isSome && PySem.W.typeIn K (.ref C) == some (.type "type")) = true then PySem.W.subIn K (.ref A) (.ref C) else none) else none) = some b
  rw [h1, i', t, if_pos (by simp), if_pos (by simp)]
  exact q
/-- none of some classes -/
theorem kit_none {K : PySem.W.Frag} {t : Value} : ∀ {us : List Value}, (∀ u ∈ us, PySem.W.kitOne K t u = some false) → PySem.W.kitAny K t us = some false
  | [], _ => rfl
  | u :: us, h => kitAny_cons (h u List.mem_cons_self) (fun _ => kit_none fun x hx => h x (List.mem_cons_of_mem _ hx)) (fun z => by cases z)
theorem cls_all : ∀ {cs : List Addr}, Paired ClsV (cs.map V.ref) (cs.map Value.ref)
  | [] => .nil
  | c :: _ => .cons (.own c) cls_all
/-- a def with defaults dvs, and with its promise -/
def DfD (K : PySem.W.Frag) (mg : Str → Option Value) (x : Str) (st : Stmt) (ps : List Str) (dvs : List V) : Prop :=
  ∃ (f : Addr) (fd : FuncData), mg x = some (.ref f) ∧ FunD K x x (defArgs st) (defBody st) (defScope st) dvs [] f fd ∧ (∃ ds, Vals dvs ds ∧ Binds K fd ps ds) ∧ Binds K fd ps []
def OkD (P : Program) (w : World) (K : PySem.W.Frag) (mg : Str → Option Value) (base : Heap) (CX : CXT) (k : Nat) (x : Str) (ps : List Str) (dvs : List V) (sp : Sp) : Prop :=
  ∃ (f : Addr) (fd : FuncData), mg x = some (.ref f) ∧ PySem.W.keepIn K (.ref f) = true ∧ (∃ ds, Vals dvs ds ∧ Binds K fd ps ds) ∧ Binds K fd ps [] ∧ FnOk P w K mg base CX k f fd ps sp
theorem dfD_mk {K : PySem.W.Frag} {mg : Str → Option Value} {x : Str} {st : Stmt} {ps : List Str} {dvs : List V} {f T : Addr} {oc oC kV dc pm cd ct : Value} {od oD an : Option Addr} {sl sD : Array (Option Value)} {its : List Value} {n : Nat}
    (hm : mg x = some (.ref f)) (l : K.lookup f = some ⟨oc, od, .func (PySem.W.fnOf x x (defArgs st) (defBody st) (defScope st) (.ref T) kV dc pm an cd ct), sl⟩) (c : PySem.W.codeIn K cd x = true) (k : PySem.W.keepIn K (.ref f) = true)
    (d : K.lookup T = some ⟨oC, oD, .seq its.toArray n, sD⟩) (r : Vals dvs its) (hd : dvs ≠ []) {m : Nat} (hn : m + dvs.length = ps.length) (hz : dvs.drop dvs.length = [])
    (h1 : ∀ (T : Addr) (kV doc pm : Value) (an : Option Addr) (cdv ct : Value) (us its : List Value), us.length = m → its.length = dvs.length →
      ∃ k, bindArgs (PySem.W.fnOf x x (defArgs st) (defBody st) (defScope st) (.ref T) kV doc pm an cdv ct) ⟨us, []⟩ = seqItems? (.ref T) >>= k ∧ k (some its.toArray) = pure (ps.zip (us ++ its.drop 0)))
    (h2 : ∀ (T : Addr) (kV doc pm : Value) (an : Option Addr) (cdv ct : Value) (us its : List Value), us.length = ps.length → its.length = dvs.length →
      ∃ k, bindArgs (PySem.W.fnOf x x (defArgs st) (defBody st) (defScope st) (.ref T) kV doc pm an cdv ct) ⟨us, []⟩ = seqItems? (.ref T) >>= k ∧ k (some its.toArray) = pure (ps.zip (us ++ its.drop dvs.length))) : DfD K mg x st ps dvs := by
  have F : FunD K x x (defArgs st) (defBody st) (defScope st) dvs [] f (PySem.W.fnOf x x (defArgs st) (defBody st) (defScope st) (.ref T) kV dc pm an cd ct) :=
    ⟨⟨oc, od, .ref T, kV, dc, pm, an, cd, ct, sl, rfl, l, c, .inr ⟨hd, T, _, its, n, rfl, d, rfl, r⟩, .inl rfl⟩, k⟩
  refine ⟨f, _, hm, F, F.binds1 m 0 hd (by omega) h1, ?_⟩
  obtain ⟨ds, v, b⟩ := F.binds1 ps.length dvs.length hd (by omega) h2
  rw [hz] at v
  cases v
  exact b
section
variable {P : Program} {w : World} {K : PySem.W.Frag} {mg : Str → Option Value} {base : Heap}
theorem DfD.ok {CX : CXT} {x : Str} {st : Stmt} {N ps : List Str} {dvs : List V} {k : Nat} {sp : Sp} (D : DfD K mg x st ps dvs) (S : FnScope N ps (defScope st)) (len : ∀ vs H Q E, sp vs H Q E → vs.length = ps.length)
    (hbody : ∀ (f : Addr) (cdv : Value) (A : Around) (outer : List Env) (s : Shared) (H : Hp) (vs : List V) (Q : VK) (E : XK), Room k (A.deeper (envOfC x (defScope st) s.heap.objs.size f cdv)) → sp vs H Q E →
      ∃ t, PSs (cxOf CX P w K mg base N x (defScope st) f cdv A outer s H E) (defBody st) t ∧ t { nx := fun _ H' => Q .non H', rt := Q } (start N vs) H) : OkD P w K mg base CX (k + 1) x ps dvs sp := by
  obtain ⟨f, fd, hm, F, hb, hb0⟩ := D
  exact ⟨f, fd, hm, F.kp, hb, hb0, F.ok S len (hbody f)⟩
/-- a def that may raise -/
theorem Df.okX {x : Str} {st : Stmt} {N ps : List Str} {k : Nat} {sp : Sp} (D : Df K mg x st ps) (S : FnScope N ps (defScope st)) (len : ∀ vs H Q E, sp vs H Q E → vs.length = ps.length)
    (hbody : ∀ (f : Addr) (cdv : Value) (A : Around) (outer : List Env) (s : Shared) (H : Hp) (vs : List V) (Q : VK) (E : XK), Room k (A.deeper (envOfC x (defScope st) s.heap.objs.size f cdv)) → sp vs H Q E →
      ∃ t, PSs (cxOf (L2.CX P w) P w K mg base N x (defScope st) f cdv A outer s H E) (defBody st) t ∧ t { nx := fun _ H' => Q .non H', rt := Q } (start N vs) H) : OkF P w K mg base (L2.CX P w) (k + 1) x ps sp := by
  obtain ⟨f, fd, hm, F, hb⟩ := D
  exact ⟨f, fd, hm, F.kp, hb, F.okX S len (hbody f)⟩
end
section
variable {X : Cx} {k k' : Nat} {x : Str} {ps : List Str} {sp : Sp} {e : Expr} {es : List Expr} {t : TA} {p pos : Pos} {W : WX} {dvs : List V}
/-- f(e, ..) where f may raise -/
theorem pe_cx (O : OkF X.prog X.w X.K X.mg X.base (L2.CX X.prog X.w) k x ps sp) (hr : Room k' X.A) (tk : Takes X W) (ha : PA X (e :: es) t) (hk : k ≤ k' := by decide) (hg : Gl X x := by rfl)
    (hdb : (x == ("__debug__" : Str)) = false := by decide) (he : starEach (e :: es) X.env = (false, eval e X.env) :: starEach es X.env := by rfl) (hpl : (backTo pos (starEach es X.env)).any (·.1) = false := by rfl) :
    PE X (.Call (.Name x p) (e :: es) [] pos) (tCallS sp (WE W) t) := by
  obtain ⟨f, fd, hm, hkp, hb, F⟩ := O
  exact pe_callS F (hr.mono hk) hg hm hkp hb (fun σ => passAt tk σ) ha hdb he hpl
/-- the same, f with defaults, all arguments written -/
theorem pe_cxn (O : OkD X.prog X.w X.K X.mg X.base (L2.CX X.prog X.w) k x ps dvs sp) (hr : Room k' X.A) (tk : Takes X W) (ha : PA X (e :: es) t) (hk : k ≤ k' := by decide) (hg : Gl X x := by rfl)
    (hdb : (x == ("__debug__" : Str)) = false := by decide) (he : starEach (e :: es) X.env = (false, eval e X.env) :: starEach es X.env := by rfl) (hpl : (backTo pos (starEach es X.env)).any (·.1) = false := by rfl) :
    PE X (.Call (.Name x p) (e :: es) [] pos) (tCallS sp (WE W) t) := by
  obtain ⟨f, fd, hm, hkp, _, hb, F⟩ := O
  exact pe_callS F (hr.mono hk) hg hm hkp hb (fun σ => passAt tk σ) ha hdb he hpl
/-- the same, the defaults fill up -/
def tCallD (sp : Sp) (dvs : List V) (E : L2.St → XK) (t : TA) : TE := fun σ H Q => t σ H fun vs H1 => sp (vs ++ dvs) H1 Q (E σ)
theorem pe_cxd (O : OkD X.prog X.w X.K X.mg X.base (L2.CX X.prog X.w) k x ps dvs sp) (hr : Room k' X.A) (tk : Takes X W) (ha : PA X (e :: es) t) (hk : k ≤ k' := by decide) (hg : Gl X x := by rfl)
    (hdb : (x == ("__debug__" : Str)) = false := by decide) (he : starEach (e :: es) X.env = (false, eval e X.env) :: starEach es X.env := by rfl) (hpl : (backTo pos (starEach es X.env)).any (·.1) = false := by rfl) :
    PE X (.Call (.Name x p) (e :: es) [] pos) (tCallD sp dvs (WE W) t) := by
  obtain ⟨f, fd, hm, hkp, ⟨ds, hv, hb⟩, _, F⟩ := O
  refine ⟨fun pins s σ H Q I h => ?_⟩
  refine wpAny_Call_Name_kw (ld_glob I hg hm ?_ hdb)
  refine PySem.W.callWith_K (h₀ := X.base) I.ok.mod.kin hkp (thn (ha.run pos pins s σ H _ I h) fun us s1 ⟨vs, H1, I1, r, q⟩ => ⟨I1.kIn, ?_⟩) he hpl
  have hl : (vs ++ dvs).length = ps.length := F.len _ _ _ _ q
  have b := hb s1 us I1.kIn (by rw [← hl, List.length_append, List.length_append, r.length, hv.length])
  refine wpAny_call (codeAny_mono (F.run X.A X.stack s1 H1 ⟨us, []⟩ (us ++ ds) (vs ++ dvs) Q (WE W σ) (hr.mono hk) I1.env0 b (r.append hv) q) fun rr s2 hq => ?_)
  cases rr with
  | error e => exact passAt tk σ pins H1 s1 e s2 I1 hq
  | ok fl =>
    cases fl with
    | ret u => exact I1.after hq
    | next => exact False.elim hq
    | brk => exact False.elim hq
    | cont => exact False.elim hq
end
end Dear

namespace Dear
open PySem PySem.Spec PyProof.Rows L2
/-! ### own exceptions with an own __init__: X(DearError), DearError.__init__(self, f'..{f}'), self.f = f -/
/-- what may stand in such a field -/
def FmtV (v : V) : Prop := v = .non ∨ (∃ y : Str, v = .str y ∧ y.length ≤ 900) ∨ ∃ i : Int, v = .int i ∧ i.natAbs < 2 ^ 64
theorem int_len {i : Int} (h : i.natAbs < 2 ^ 64) : (Str.ofString (toString i)).length ≤ 900 ∧ i.natAbs.log2 < 1920 := by
  constructor
  · have e := int_text_length_le10 (k := 30) (a := i) (by decide) (Nat.lt_of_lt_of_le h (by decide))
    rw [PySem.ofString_length]
    omega
  · have e : i.natAbs.log2 < 64 := PySem.Flt.log2_lt_of (by decide) h
    omega
section
variable {X : Cx}
/-- {x} of None, a text, a number: some short text -/
def tFmtN (te : TE) : TE := fun σ H Q => te σ H fun x H1 => FmtV x ∧ ∀ z : Str, z.length ≤ 900 → Q (.str z) H1
theorem pe_fmtN {e : Expr} {te : TE} {pos : Pos} (he : PE X e te) : PE X (.FormattedValue e (-1) none pos) (tFmtN te) := by
  refine ⟨fun pins s σ H Q I h => wpAny_FormattedValue_plain (thn (he.run pins s σ H _ I h) fun v s1 hv => ?_)⟩
  obtain ⟨x, H1, J, r, hx, q⟩ := hv
  rcases hx with e | ⟨y, e, hy⟩ | ⟨i, e, hi⟩
  · subst e
    cases (show v = Value.none from r)
    exact wpAny_formatField_none ⟨.str "None", H1, (J.tok _), ⟨_, rfl⟩, q _ (by decide +kernel)⟩
  · subst e
    obtain ⟨t, e⟩ := r
    subst e
    have q' := q y hy
    exact wpAny_formatField_str ⟨.str y, H1, J, ⟨t, rfl⟩, q'⟩ ⟨.str y, H1, J.tok _, ⟨_, rfl⟩, q'⟩ (Nat.le_trans hy (by decide))
  · subst e
    obtain ⟨t, e⟩ := r
    subst e
    exact wpAny_formatField_int (int_len hi).2 ⟨.str (Str.ofString (toString i)), H1, J.tok _, ⟨_, rfl⟩, q _ (int_len hi).1⟩
end
/-- C.__init__ of an own exception class without an own one is ValueError's -/
structure DrI (K : PySem.W.Frag) (mg : Str → Option Value) (x : Str) (C : Addr) : Prop where
  g : mg x = some (.ref C)
  s : PySem.W.specialIn K (.ref C) "__getattribute__" = some (some (.builtin "type.__getattribute__"))
  r : PySem.W.readsIn K C (.type "type") = true
  v : PySem.W.findCls K (.ref C) (.type "type") "__init__" = some (.val (.builtin "ValueError.__init__"))
section
variable {X : Cx}
theorem pe_drinit {e : Expr} {es : List Expr} {ta : TA} {x : Str} {C0 : Addr} {pl : Sem Bool} {p1 p2 pos : Pos} (T : DrI X.K X.mg x C0) (ha : PA X (e :: es) ta) (hg : Gl X x := by rfl) (hdb : (x == ("__debug__" : Str)) = false := by decide)
    (hc : eval (.Call (.Attribute (.Name x p1) "__init__" p2) (e :: es) [] pos) X.env = (do
      let o9 ← eval (.Name x p1) X.env
      standAt p2.atName
      let (f9, r9) ← holding [o9] (getMethod o9 "__init__" pl)
      callWith pos f9 r9 (backTo pos (starEach (e :: es) X.env)) (backToKw pos (keywordEach [] X.env))) := by rfl)
    (he : starEach (e :: es) X.env = (false, eval e X.env) :: starEach es X.env := by rfl) (hpl : (backTo pos (starEach es X.env)).any (·.1) = false := by rfl) :
    PE X (.Call (.Attribute (.Name x p1) "__init__" p2) (e :: es) [] pos) (tVeI X.K ta) := by
  refine ⟨fun pins s σ H Q I h => PySem.W.methodCall_KW (ld_glob I hg T.g ?_ hdb) hc⟩
  refine PySem.W.method_cls I.kIn T.s (PySem.W.cls_value I.kIn T.r T.v (by decide +kernel) ?_)
  show wpAny (model X.prog X.w) X.A (callWith pos (Value.builtin "ValueError.__init__") [] (backTo pos (starEach (e :: es) X.env)) []) _ _ _
  refine PyProof.Rows.callWith_method1 (thn (ha.run pos pins _ σ H _ (I.tok _) h) fun us s1 hh => ?_) he hpl
  obtain ⟨vs, H1, J, r, a, C, ws, ev, hl, O, ea, q⟩ := hh
  subst ev
  cases r with
  | @cons _ u0 _ ur ra rr =>
    cases (show u0 = Value.ref a from ra)
    exact oinit_ok O J ea (by rw [← Paired.length rr]; exact Nat.le_trans hl (by decide)) fun s' J' => ⟨.non, H1, J', rfl, q⟩
end
/-- the promise of such an __init__ -/
def spExI (f : Str) (K : PySem.W.Frag) : Sp := fun vs H Q _ => ∃ (a C : Addr) (v : V), vs = [.ref a, v] ∧ OexC K C ∧ PySem.W.findIn K (.ref C) f = some none ∧ H a = some (exo a C none) ∧ FmtV v ∧
  ∀ dx, H dx = none → dx ≠ a → Q .non (upd (upd H dx (exd dx [(f, v)])) a (exo a C (some dx)))
/-- what the written part says of the class at C -/
structure ExInit (K : PySem.W.Frag) (mg : Str → Option Value) (x f : Str) (C : Addr) : Prop where
  g : mg x = some (.ref C)
  o : OexC K C
  n : PySem.W.findIn K (.ref C) f = some none
  c : ExcC K C
def OkI (P : Program) (w : World) (K : PySem.W.Frag) (mg : Str → Option Value) (base : Heap) (x f : Str) (C : Addr) : Prop :=
  ∃ (fI : Addr) (fd : FuncData), PySem.W.findIn K (.ref C) "__init__" = some (some (.ref fI)) ∧ PySem.W.typeIn K (.ref fI) = some (.type "function") ∧ FnOk P w K mg base CX0 1 fI fd ["self", f] (spExI f K) ∧ Binds K fd ["self", f] [] ∧ ExInit K mg x f C
/-- the def __init__ of the class at C -/
def DfI (K : PySem.W.Frag) (C : Addr) (q : Str) (st : Stmt) (f : Str) : Prop := ∃ (fI : Addr) (fd : FuncData), PySem.W.findIn K (.ref C) "__init__" = some (some (.ref fI)) ∧ PySem.W.typeIn K (.ref fI) = some (.type "function") ∧ Fun K "__init__" q st fI fd ∧ Binds K fd ["self", f] []
section
variable {X : Cx}
theorem pmk_i {k' : Nat} {x f : Str} {C : Addr} {e : Expr} {ta : TA} {p pos : Pos} (O : OkI X.prog X.w X.K X.mg X.base x f C) (hr : Room k' X.A) (ha : PA X [e] ta) (hk : 2 ≤ k' := by decide) (hg : Gl X x := by rfl) (hdb : (x == ("__debug__" : Str)) = false := by decide)
    (he : starEach [e] X.env = (false, eval e X.env) :: starEach [] X.env := by rfl) (hpl : (backTo pos (starEach [] X.env)).any (·.1) = false := by rfl) : PMk X (.Call (.Name x p) [e] [] pos) (tMkO C (spExI f X.K) [] ta) := by
  obtain ⟨fI, fd, h1, h2, F, b, T⟩ := O
  exact pmk_oex T.o h1 h2 F (hr.mono hk) b .nil pass0 hg T.g ha hdb he hpl
end
/-- making it, at its reading -/
theorem mkx {K : PySem.W.Frag} {mg : Str → Option Value} {x f : Str} {C : Addr} {H : Hp} {v : V} {Q : XK} (T : ExInit K mg x f C) (fv : FmtV v) (q : ∀ d, H d = none → Q (.ref C) (some d) (upd H d (.xd [(f, v)]))) :
    [v].length ≤ 1000 ∧ ∀ a, H a = none → spExI f K (.ref a :: ([v] ++ [])) (upd H a (exo a C none)) (fun u H2 => u = .non ∧ ∃ (d : Addr) (fs : List (Str × V)), H2 a = some (exo a C (some d)) ∧ H2 d = some (exd d fs) ∧ H d = none ∧ Q (.ref C) (some d) (upd (del H2 a) d (.xd fs))) (fun _ _ _ => False) := by
  refine ⟨(by decide : 1 ≤ 1000), fun a ha => ⟨a, C, v, rfl, T.o, T.n, upd_same, fv, fun dx hd ne => ⟨rfl, dx, [(f, v)], upd_same, ?_, ?_, ?_⟩⟩⟩
  · rw [upd_ne ne, upd_same]
  · rw [upd_ne ne] at hd
    exact hd
  · rw [upd_ne ne] at hd
    have e : upd (del (upd (upd (upd H a (exo a C none)) dx (exd dx [(f, v)])) a (exo a C (some dx))) a) dx (.xd [(f, v)]) = upd H dx (.xd [(f, v)]) := by
      funext b
      by_cases h1 : b = dx
      · subst h1
        rw [upd_same, upd_same]
      · rw [upd_ne h1, upd_ne h1]
        by_cases h2 : b = a
        · subst h2
          rw [del_same, ha]
        · rw [del_ne h2, upd_ne h2, upd_ne h1, upd_ne h2]
    rw [e]
    exact q dx hd
/-! ### a kept exception with a dict: isinstance, its field -/
/-- the exception of the class D at a, with its dict or without -/
def ExAt (H : Hp) (D a : Addr) : Prop := H a = some (ExK (.ref D) none a) ∨ ∃ (dd : Addr) (fs : List (Str × V)), H a = some (ExK (.ref D) (some dd) a) ∧ H dd = some (.xd fs)
section
variable {prog : Program} {w : World} {A : Around} {E : Value → Shared → Prop} {s : Shared} {K : PySem.W.Frag} {x D : Addr} {ox : Obj} {od : Option Obj}
open PySem.W in
theorem class_of_exc {Q : Option Value → Shared → Prop} (C : ExcC K D) (X : K.In s.heap) (I : InstAt s.heap x ox D od) (h : Q (some (.ref D)) { s with toks := s.toks + 1 }) : wpAny (model prog w) A (getAttr? (.ref x) "__class__") Q E s := by
  obtain ⟨cd, hc, _⟩ := any_some C.hd
  have found : findObj K D od "__class__" = some (.bind (.builtin "getset_descriptor.__get__") (.builtin "object.__class__")) := by
    unfold findObj
    rw [hc, Option.bind_some, C.ha, Option.bind_some]
    simp [C.hn, C.ht]
  obtain ⟨hp, g, d, t, os⟩ := s
  have M0 := I.type (M := model prog w)
  have no : (Value.builtin "BaseException.__getattribute__" == Value.builtin "object.__getattribute__") = false := by decide +kernel
  have isE : Looks (model prog w) hp (isInstance (.ref x) (.type "BaseException")) true := M0.andThen (looks_subIn X C.hs)
  unfold getAttr? getAttrBy? getAttrBy
  refine wpAny_bind (wpAny_mkText (wpAny_bind (wpAny_attempt (wpAny_holding (wpAny_bind (M0.at (wpAny_bind ((looks_findIn (M := model prog w) X C.hg).at ?_))))))))
  show wpAny (model prog w) _ (if (true && Value.builtin "BaseException.__getattribute__" == Value.builtin "object.__getattribute__") = true then _ else _) _ _ _
  rw [no, if_neg (by decide)]
  unfold getAttrByItsOwn hookBefore
  refine wpAny_bind ?_
  rw [if_pos (show onTheHeap (.ref D) = true from rfl)]
  refine (looks_findIn (M := model prog w) X C.hk).at (wpAny_bind (wpAny_attempt (wpAny_holding ?_)))
  unfold callGetattribute
  rw [if_neg (by decide)]
  unfold boundAndCalled
  rw [F.excAttr_ValueError.ga.bind (.ref x)]
  refine wpAny_bind (wpAny_pure ?_)
  show wpAny (model prog w) _ (call (.builtin "BaseException.__getattribute__") [.ref x, .str "__class__" t]) _ _ _
  refine wpAny_call (codeAny_call_builtin F.excAttr_ValueError.ga.plain F.entry_bexc_ga (@check_slot (model prog w) _ _ ⟨hp, g, d, t + 1, os⟩ "BaseException.__getattribute__" "BaseException" "__getattribute__" (.ref x) [.str "__class__" t] [] _ (by decide +kernel) (by decide +kernel) isE (F.args_bexc_ga (.ref x) (.str "__class__" t)) ?_))
  unfold Builtin.«object.__getattribute__»
  refine wpAny_bind (wpAny_of_eq (a := ((Value.ref x : Value), [Value.str "__class__" t])) (by first | (simp only [slotArgs]; rfl) | rfl) (wpAny_bind (wpAny_pure (wpAny_bind (M0.at (wpAny_bind ((looks_find (M := model prog w) X I found).at ?_)))))))
  show wpAny (model prog w) _ (holding [Value.builtin "object.__class__"] (call (.builtin "getset_descriptor.__get__") [.builtin "object.__class__", .ref x, .ref D]) >>= ret) _ _ _
  refine wpAny_bind (wpAny_holding (wpAny_call (class_get (s := ⟨hp, g, d, t + 1, os⟩) (ox := ox) (od := od) X I C.hm (wpAny_pure ?_))))
  show wpAny (model prog w) _ (handedOut (.ref D)) _ _ _
  rw [handedOut_of (v := .ref D) rfl]
  first
    | exact wpAny_pure (wpAny_pure h)
    | exact wpAny_pure h
    | exact wpAny_pure (wpAny_bind (wpAny_pure (wpAny_pure h)))
open PySem.W in
theorem kitx_own (C : ExcC K D) : KitX K (.ref x) (.ref D) (fun h => InstAt h x ox D od) := by
  have Z := handS_kitx_exc (x := x) (ox := ox) C.hg C.hk C.hs C.hd C.ha C.hn C.ht C.hm
  refine ⟨fun _ _ _ I => I.type, fun M h X _ => ?_, Z.ne, fun X I k => class_of_exc C X I k⟩
  obtain ⟨cd, hc, _⟩ := any_some C.hd
  unfold clsIn at hc
  split at hc
  · rename_i ho
    intro A' Q' E' s' k q
    unfold isType loadHead
    exact wpAny_bind (wpAny_loadPart (k _ _ (X _ _ ho)) (wpAny_pure q))
  · cases hc
end
def rIsY (K : PySem.W.Frag) : List V → Hp → VK → Prop := fun xs H Q => ∃ (a D : Addr) (c : V) (u : Value) (b : Bool), xs = [.ref a, c] ∧ ExAt H D a ∧ ExcC K D ∧ ClsV c u ∧ PySem.W.kitOne K (.ref D) u = some b ∧ Q (.bl b) H
def rIsYT (K : PySem.W.Frag) : List V → Hp → VK → Prop := fun xs H Q => ∃ (a D tp : Addr) (cs : List V) (us : List Value) (b : Bool), xs = [.ref a, .ref tp] ∧ ExAt H D a ∧ ExcC K D ∧ H tp = some (.tup cs) ∧ Paired ClsV cs us ∧ PySem.W.kitAny K (.ref D) us = some b ∧ Q (.bl b) H
section
variable {X : Cx} {pins : List (Addr × Obj)} {σ : L2.St} {H : Hp} {s : Shared}
theorem inst_of (I : Inv X pins σ H s) {D a : Addr} (h : ExAt H D a) : ∃ oe od, PySem.W.InstAt s.heap a oe D od := by
  rcases h with h | ⟨dd, fs, h, hd⟩
  · obtain ⟨⟨oe, vs, he, hz, hv⟩, _⟩ := I.hok a _ h
    exact ⟨oe, none, instAt_kept he hz hv⟩
  · obtain ⟨⟨oe, vs, he, hz, hv⟩, _⟩ := I.hok a _ h
    have hx : ObjOk X.prog X.w H s.heap dd (.xd fs) := I.hok dd _ hd
    obtain ⟨mA, hns, _⟩ := hx
    obtain ⟨od, ho, _⟩ := lookIn_ns hns
    exact ⟨oe, some od, he, hz.1, by unfold PySem.W.notCls; rw [hv] <;> rfl, by rw [hz.2]; exact ho⟩
end
section
variable {X : Cx} (K : PySem.W.Frag)
theorem call_isY_k (hk : X.K = K := by rfl) : CallR X (.builtin "isinstance") (rIsY K) := by
  subst hk
  intro pins s σ H xs us Q I r h
  obtain ⟨a, D, c, u, b, rfl, ha, C, k, e, q⟩ := h
  obtain ⟨u1, u2, rfl, r1, r2⟩ := vals2 r
  have e2 := k.eq r2
  subst e2
  cases r1
  obtain ⟨oe, od, J⟩ := inst_of I ha
  exact PySem.W.kia_one (kitx_own C) I.kIn J e (fun z => nomatch z) fun tk => ⟨.bl b, H, I.tok tk, rfl, q⟩
theorem call_isYT_k (hk : X.K = K := by rfl) : CallR X (.builtin "isinstance") (rIsYT K) := by
  subst hk
  intro pins s σ H xs us Q I r h
  obtain ⟨a, D, tp, cs, ws, b, rfl, ha, C, hT, k, e, q⟩ := h
  obtain ⟨u1, u2, rfl, r1, r2⟩ := vals2 r
  cases r1
  cases (show u2 = Value.ref tp from r2)
  obtain ⟨oe, od9, J⟩ := inst_of I ha
  obtain ⟨_, its, rv, o, h1, h2, n, h3⟩ := (show ObjOk X.prog X.w H s.heap tp (.tup cs) from I.hok tp _ hT)
  have e3 := ClsV.all k rv
  subst e3
  obtain ⟨oc, od, dt, sl⟩ := o
  simp only at h2 h3
  subst h2 h3
  exact PySem.W.kia_tup (kitx_own C) I.kIn J h1 e (fun z => nomatch z) fun tk => ⟨.bl b, H, I.tok tk, rfl, q⟩
/-- e.f, e a kept exception -/
def tXfK (K : PySem.W.Frag) (f : Str) (te : TE) : TE := fun σ H Q => te σ H fun x H1 => ∃ (a C dd : Addr) (fs : List (Str × V)) (v : V), x = .ref a ∧ H1 a = some (ExK (.ref C) (some dd) a) ∧ H1 dd = some (.xd fs) ∧ ExcC K C ∧ PySem.W.findIn K (.ref C) f = some none ∧ fs.lookup f = some v ∧ Q v H1
theorem pe_xfK {e : Expr} {te : TE} {pos : Pos} {f : Str} (he : PE X e te) (hk : X.K = K := by rfl) (hb : attributeBase e f X.env (eval e X.env) = eval e X.env := by rfl) : PE X (.Attribute e f pos) (tXfK K f te) := by
  subst hk
  refine ⟨fun pins s σ H Q I h => attr_of hb (thn (he.run pins s σ H _ I h) fun u s1 hh => ?_)⟩
  obtain ⟨x, H1, J, rx, a, C, dd, fs, v, ex, ea, ed, T, hno, l, q⟩ := hh
  subst ex
  cases (show u = Value.ref a from rx)
  obtain ⟨⟨oe, vs, hoe, hz, hv⟩, _⟩ := J.hok a _ ea
  have hx : ObjOk X.prog X.w H1 s1.heap dd (.xd fs) := J.hok dd _ ed
  obtain ⟨mA, hns, hr⟩ := hx
  obtain ⟨od, ho, hl⟩ := lookIn_ns hns
  obtain ⟨u, hu, ru⟩ := RelO.some_of (v := v) (o := mA f) (by rw [← l]; exact hr f)
  have Z : PySem.W.InstAt s1.heap a oe C (some od) := ⟨hoe, hz.1, by unfold PySem.W.notCls; rw [hv] <;> rfl, by rw [hz.2]; exact ho⟩
  exact HandSPX.exc_get J.kIn Z T.hg T.hk T.hs (PySem.W.findObj_own T.hd hno rfl (by rw [hl, hu])) (handed_of ru) ⟨v, H1, J.tok _, ru, q⟩
end
end Dear

namespace Dear
open PySem PySem.Spec PyProof.Rows L2
/-! ### own classes: making an object, its methods; both may raise -/
def DfM (K : PySem.W.Frag) (C : Addr) (m q : Str) (st : Stmt) (ps : List Str) : Prop := ∃ (f : Addr) (fd : FuncData), Meth K C m f ∧ Fun K m q st f fd ∧ Binds K fd ps []
def DfC (K : PySem.W.Frag) (mg : Str → Option Value) (x : Str) (C : Addr) (q : Str) (st : Stmt) (ps : List Str) : Prop := mg x = some (.ref C) ∧ ∃ (f : Addr) (fd : FuncData), L2.Mk K C f ∧ Fun K "__init__" q st f fd ∧ Binds K fd ps []
def OkM (P : Program) (w : World) (K : PySem.W.Frag) (mg : Str → Option Value) (base : Heap) (CX : CXT) (k : Nat) (C : Addr) (m : Str) (ps : List Str) (sp : Sp) : Prop :=
  ∃ (f : Addr) (fd : FuncData), Meth K C m f ∧ Binds K fd ps [] ∧ FnOk P w K mg base CX k f fd ps sp
def OkC (P : Program) (w : World) (K : PySem.W.Frag) (mg : Str → Option Value) (base : Heap) (CX : CXT) (k : Nat) (x : Str) (C : Addr) (ps : List Str) (sp : Sp) : Prop :=
  mg x = some (.ref C) ∧ ∃ (f : Addr) (fd : FuncData), L2.Mk K C f ∧ Binds K fd ps [] ∧ FnOk P w K mg base CX k f fd ps sp
section
variable {P : Program} {w : World} {K : PySem.W.Frag} {mg : Str → Option Value} {base : Heap} {C : Addr} {x m q : Str} {st : Stmt} {N ps : List Str} {k : Nat} {sp : Sp}
theorem DfM.ok (D : DfM K C m q st ps) (S : FnScope N ps (defScope st)) (len : ∀ vs H Q E, sp vs H Q E → vs.length = ps.length)
    (body : ∀ (f : Addr) (cdv : Value) (A : Around) (outer : List Env) (s : Shared) (H : Hp) (vs : List V) (Q : VK) (E : XK), Room k (A.deeper (envOfC q (defScope st) s.heap.objs.size f cdv)) → sp vs H Q E →
      ∃ t, PSs (cxOf CX0 P w K mg base N q (defScope st) f cdv A outer s H E).nox (defBody st) t ∧ t { nx := fun _ H' => Q .non H', rt := Q } (start N vs) H) : OkM P w K mg base CX0 (k + 1) C m ps sp := by
  obtain ⟨f, fd, hm, F, hb⟩ := D
  exact ⟨f, fd, hm, hb, F.ok S len (body f)⟩
theorem DfM.okX (D : DfM K C m q st ps) (S : FnScope N ps (defScope st)) (len : ∀ vs H Q E, sp vs H Q E → vs.length = ps.length)
    (body : ∀ (f : Addr) (cdv : Value) (A : Around) (outer : List Env) (s : Shared) (H : Hp) (vs : List V) (Q : VK) (E : XK), Room k (A.deeper (envOfC q (defScope st) s.heap.objs.size f cdv)) → sp vs H Q E →
      ∃ t, PSs (cxOf (L2.CX P w) P w K mg base N q (defScope st) f cdv A outer s H E) (defBody st) t ∧ t { nx := fun _ H' => Q .non H', rt := Q } (start N vs) H) : OkM P w K mg base (L2.CX P w) (k + 1) C m ps sp := by
  obtain ⟨f, fd, hm, F, hb⟩ := D
  exact ⟨f, fd, hm, hb, F.okX S len (body f)⟩
theorem DfC.okX (D : DfC K mg x C q st ps) (S : FnScope N ps (defScope st)) (len : ∀ vs H Q E, sp vs H Q E → vs.length = ps.length)
    (body : ∀ (f : Addr) (cdv : Value) (A : Around) (outer : List Env) (s : Shared) (H : Hp) (vs : List V) (Q : VK) (E : XK), Room k (A.deeper (envOfC q (defScope st) s.heap.objs.size f cdv)) → sp vs H Q E →
      ∃ t, PSs (cxOf (L2.CX P w) P w K mg base N q (defScope st) f cdv A outer s H E) (defBody st) t ∧ t { nx := fun _ H' => Q .non H', rt := Q } (start N vs) H) : OkC P w K mg base (L2.CX P w) (k + 1) x C ps sp := by
  obtain ⟨g, f, fd, hm, F, hb⟩ := D
  exact ⟨g, f, fd, hm, hb, F.okX S len (body f)⟩
theorem DfC.ok (D : DfC K mg x C q st ps) (S : FnScope N ps (defScope st)) (len : ∀ vs H Q E, sp vs H Q E → vs.length = ps.length)
    (body : ∀ (f : Addr) (cdv : Value) (A : Around) (outer : List Env) (s : Shared) (H : Hp) (vs : List V) (Q : VK) (E : XK), Room k (A.deeper (envOfC q (defScope st) s.heap.objs.size f cdv)) → sp vs H Q E →
      ∃ t, PSs (cxOf CX0 P w K mg base N q (defScope st) f cdv A outer s H E).nox (defBody st) t ∧ t { nx := fun _ H' => Q .non H', rt := Q } (start N vs) H) : OkC P w K mg base CX0 (k + 1) x C ps sp := by
  obtain ⟨g, f, fd, hm, F, hb⟩ := D
  exact ⟨g, f, fd, hm, hb, F.ok S len (body f)⟩
end
/-- o.m(..), the way out for a raise told at the names' values -/
def tMethX (C : Addr) (m : Str) (sp : Sp) (E : L2.St → XK) (ta : TE) (t : TA) : TE := fun σ H Q => ta σ H fun x H1 => ∃ a dx fs, x = .ref a ∧ H1 a = some (.ins C dx fs) ∧ fs.lookup m = none ∧ t σ H1 fun vs H2 => sp (x :: vs) H2 Q (E σ)
def tMakeX (C : Addr) (sp : Sp) (E : L2.St → XK) (t : TA) : TE := fun σ H Q => t σ H fun vs H1 => ∀ x dx, H1 x = none → H1 dx = none → dx ≠ x → sp (.ref x :: vs) (upd (upd H1 dx (.own x)) x (.ins C dx [])) (fun v H2 => v = .non ∧ Q (.ref x) H2) (E σ)
section
variable {X : Cx} {k k' : Nat} {C : Addr} {x m : Str} {ps : List Str} {sp : Sp} {o e : Expr} {es : List Expr} {ta : TE} {t : TA} {p pos apos : Pos} {W : WX}
/-- o.m(e, ..) -/
theorem pe_m {pl : Sem Bool} (O : OkM X.prog X.w X.K X.mg X.base CX0 k C m ps sp) (c : Cls X.K C) (hr : Room k' X.A) (he : PE X o ta) (ha : PA X (e :: es) t) (hk : k ≤ k' := by decide)
    (hst : starEach (e :: es) X.env = (false, eval e X.env) :: starEach es X.env := by rfl) (hpl : (backTo pos (starEach es X.env)).any (·.1) = false := by rfl)
    (ht : eval (.Call (.Attribute o m apos) (e :: es) [] pos) X.env = (do
      let u ← eval o X.env
      standAt apos.atName
      let (g, fst) ← holding [u] (getMethod u m pl)
      callWith pos g fst (backTo pos (starEach (e :: es) X.env)) (backToKw pos (keywordEach [] X.env))) := by rfl) : PE X (.Call (.Attribute o m apos) (e :: es) [] pos) (tMeth C m sp [] E0 ta t) := by
  obtain ⟨f, fd, hm, hb, F⟩ := O
  exact pe_meth he c hm F (hr.mono hk) hb .nil pass0 ha hst hpl ht
theorem pe_mz {pl : Sem Bool} (O : OkM X.prog X.w X.K X.mg X.base CX0 k C m ps sp) (c : Cls X.K C) (hr : Room k' X.A) (he : PE X o ta) (hk : k ≤ k' := by decide)
    (ht : eval (.Call (.Attribute o m apos) [] [] pos) X.env = (do
      let u ← eval o X.env
      standAt apos.atName
      let (g, fst) ← holding [u] (getMethod u m pl)
      callWith pos g fst (backTo pos (starEach [] X.env)) (backToKw pos (keywordEach [] X.env))) := by rfl) : PE X (.Call (.Attribute o m apos) [] [] pos) (tMeth C m sp [] E0 ta tNil) := by
  obtain ⟨f, fd, hm, hb, F⟩ := O
  exact pe_meth0 he c hm F (hr.mono hk) hb .nil pass0 ht
/-- o.m(e, ..) that may raise -/
theorem pe_mx {pl : Sem Bool} (O : OkM X.prog X.w X.K X.mg X.base (L2.CX X.prog X.w) k C m ps sp) (c : Cls X.K C) (hr : Room k' X.A) (tk : Takes X W) (he : PE X o ta) (ha : PA X (e :: es) t) (hk : k ≤ k' := by decide)
    (hst : starEach (e :: es) X.env = (false, eval e X.env) :: starEach es X.env := by rfl) (hpl : (backTo pos (starEach es X.env)).any (·.1) = false := by rfl)
    (ht : eval (.Call (.Attribute o m apos) (e :: es) [] pos) X.env = (do
      let u ← eval o X.env
      standAt apos.atName
      let (g, fst) ← holding [u] (getMethod u m pl)
      callWith pos g fst (backTo pos (starEach (e :: es) X.env)) (backToKw pos (keywordEach [] X.env))) := by rfl) : PE X (.Call (.Attribute o m apos) (e :: es) [] pos) (tMethX C m sp (WE W) ta t) := by
  obtain ⟨f, fd, hm, hb, F⟩ := O
  refine ⟨fun pins s σ H Q I h => ?_⟩
  refine PySem.W.methodCall_KW (pl := pl) (thn (he.run pins s σ H _ I h) fun u s1 ⟨y, H1, I1, ry, b, dx, fs, ey, eb, lk, q⟩ => ?_) ht
  subst ey
  obtain rfl : u = Value.ref b := ry
  refine getmeth_ok I1 eb c hm lk ?_
  refine PySem.W.callWith_K (first := [.ref b]) (h₀ := X.base) I.ok.mod.kin hm.kp (thn (ha.run pos pins s1 σ H1 _ I1 q) fun us s2 ⟨vs, H2, I2, r, q2⟩ => ⟨I2.kIn, ?_⟩) hst hpl
  exact run_fnS (us := .ref b :: us) (vs := .ref b :: vs) F (hr.mono hk) hb (E := WE W) (passAt tk σ) I2 (.cons rfl r) q2
/-- C(e, ..) whose __init__ may raise -/
theorem pe_mkx (O : OkC X.prog X.w X.K X.mg X.base (L2.CX X.prog X.w) k x C ps sp) (hr : Room k' X.A) (tk : Takes X W) (ha : PA X (e :: es) t) (hk : k + 1 ≤ k' := by decide) (hg : Gl X x := by rfl)
    (hdb : (x == ("__debug__" : Str)) = false := by decide) (he : starEach (e :: es) X.env = (false, eval e X.env) :: starEach es X.env := by rfl) (hpl : (backTo pos (starEach es X.env)).any (·.1) = false := by rfl) :
    PE X (.Call (.Name x p) (e :: es) [] pos) (tMakeX C sp (WE W) t) := by
  obtain ⟨hm, f, fd, M, hb, F⟩ := O
  refine ⟨fun pins s σ H Q I h => ?_⟩
  refine wpAny_Call_Name_kw (ld_glob I hg hm ?_ hdb)
  refine PySem.W.callWith_K (h₀ := X.base) I.ok.mod.kin M.kp (thn (ha.run pos pins s σ H _ I h) fun us s1 ⟨vs, H1, I1, r, q⟩ => ⟨I1.kIn, ?_⟩) he hpl
  have q1 := q (s1.heap.objs.size + 1) s1.heap.objs.size (I1.hok.fresh (Nat.le_succ _)) (I1.hok.fresh (Nat.le_refl _)) (Nat.ne_of_lt (Nat.lt_succ_self _))
  have J := Inv.made (C := C) I1
  have r1 : Vals (V.ref (s1.heap.objs.size + 1) :: vs) (Value.ref (s1.heap.objs.size + 1) :: us) := .cons rfl r
  have ln : (Value.ref (s1.heap.objs.size + 1) :: us ++ []).length = ps.length := by
    rw [List.append_nil, ← r1.length]
    exact F.len _ _ _ _ q1
  have b := hb _ (Value.ref (s1.heap.objs.size + 1) :: us) J.kIn ln
  rw [List.append_nil] at b
  refine wpAny_call (make_map (f := f) I1.kIn M.makes M.init (beq_iff_eq.mp M.fn) (codeAny_mono (F.run _ X.stack _ _ ⟨Value.ref (s1.heap.objs.size + 1) :: us, []⟩ _ _ _ (WE W σ) ((hr.mono hk).make C us [])
    (J.env0.make C us []) b r1 q1) fun rr s2 hq => ?_))
  cases rr with
  | error er => exact passAt tk σ pins _ _ er s2 J hq
  | ok fl =>
    cases fl with
    | ret u =>
      obtain ⟨v, H3, I3, rv, ev, q3⟩ := J.after hq
      subst ev
      exact ⟨rv, ⟨V.ref (s1.heap.objs.size + 1), H3, I3, rfl, q3⟩⟩
    | next => exact False.elim hq
    | brk => exact False.elim hq
    | cont => exact False.elim hq
end
/-- text += text, on an attribute -/
def rAddT : V → V → Hp → VK → Prop := fun x y H Q => ∃ i j, x = .str i ∧ y = .str j ∧ i.length + j.length ≤ sizeLine ∧ Q (.str (i ++ j)) H
theorem in_addT {X : Cx} : InOp X .Add rAddT := fun pins s σ H x y u v Q I rx ry h => iop_add_str pins s σ H x y u v Q I rx ry h
theorem pe_fld_k {X : Cx} (K : PySem.W.Frag) {e : Expr} {f : Str} {pos : Pos} {ta : TE} (he : PE X e ta) (hb : attributeBase e f X.env (eval e X.env) = eval e X.env) (hk : X.K = K := by rfl) : PE X (.Attribute e f pos) (tFld K ta f) := hk ▸ pe_fld he hb
end Dear

namespace Dear
open PySem PySem.Spec PyProof.Rows L2
/-! ### the set of a list of texts (any number), and how many it has -/
def dd1 (m : List Str) (v : Str) : List Str := if v ∈ m then m else m ++ [v]
def dd (xs : List Str) : List Str := xs.foldl dd1 []
theorem dd1_any (m : List Str) (v k : Str) : (m.any (· == k) || decide (k = v)) = (dd1 m v).any (· == k) := by
  unfold dd1
  by_cases h : v ∈ m
  · rw [if_pos h]
    by_cases e : k = v
    · subst e
      have : m.any (· == k) = true := List.any_eq_true.mpr ⟨k, h, by simp⟩
      rw [this]
      rfl
    · rw [decide_eq_false e, Bool.or_false]
  · rw [if_neg h, List.any_append]
    congr 1
    by_cases e : k = v
    · subst e; simp
    · have : ¬ v = k := fun z => e z.symm
      simp [e, this]
theorem dd1_len (m : List Str) (v : Str) : (if m.any (· == v) = true then m.length else m.length + 1) = (dd1 m v).length := by
  unfold dd1
  by_cases h : v ∈ m
  · have : m.any (· == v) = true := List.any_eq_true.mpr ⟨v, h, by simp⟩
    rw [if_pos h, if_pos this]
  · have : ¬ m.any (· == v) = true := fun z => by
      obtain ⟨x, hx, e⟩ := List.any_eq_true.mp z
      have e' : x = v := by simpa using e
      subst e'
      exact h hx
    rw [if_neg h, if_neg this, List.length_append]
    rfl
theorem dd_le : ∀ (xs m : List Str), (xs.foldl dd1 m).length ≤ m.length + xs.length
  | [], m => by simp
  | v :: r, m => by
    rw [List.foldl_cons]
    have h1 := dd_le r (dd1 m v)
    have h2 : (dd1 m v).length ≤ m.length + 1 := by
      unfold dd1
      split
      · omega
      · simp
    rw [List.length_cons]
    omega
theorem dd_more {xs : List Str} {i : Nat} {v : Str} (h : xs[i]? = some v) : dd (xs.take (i + 1)) = dd1 (dd (xs.take i)) v := by
  unfold dd
  rw [List.take_succ, h, List.foldl_append]
  rfl
/-- unlike ones: as many as there are -/
theorem dd_nodup : ∀ {xs : List Str} (m : List Str), (m ++ xs).Nodup → xs.foldl dd1 m = m ++ xs
  | [], m, _ => by simp
  | v :: r, m, h => by
    have hv : ¬ v ∈ m := fun z => by
      have := List.nodup_append.mp h
      exact this.2.2 v z v List.mem_cons_self rfl
    rw [List.foldl_cons]
    have e : dd1 m v = m ++ [v] := if_neg hv
    rw [e, dd_nodup (m ++ [v]) (by rw [List.append_assoc]; exact h), List.append_assoc]
    rfl
theorem dd_mem : ∀ (xs m : List Str) (k : Str), k ∈ xs.foldl dd1 m ↔ k ∈ m ∨ k ∈ xs
  | [], m, k => by simp
  | v :: r, m, k => by
    rw [List.foldl_cons, dd_mem r (dd1 m v) k]
    unfold dd1
    split
    · rename_i h
      constructor
      · rintro (h1 | h1)
        · exact .inl h1
        · exact .inr (List.mem_cons_of_mem _ h1)
      · rintro (h1 | h1)
        · exact .inl h1
        · rcases List.mem_cons.mp h1 with rfl | h1
          · exact .inl h
          · exact .inr h1
    · simp [or_assoc]
theorem dd_uniq : ∀ (xs m : List Str), m.Nodup → (xs.foldl dd1 m).Nodup
  | [], m, h => h
  | v :: r, m, h => by
    rw [List.foldl_cons]
    refine dd_uniq r _ ?_
    unfold dd1
    split
    · exact h
    · rename_i hv
      rw [List.nodup_append]
      exact ⟨h, by simp, fun a ha b hb e => by
        have : b = v := by simpa using hb
        subst this; subst e; exact hv ha⟩
/-- just unlike ones come to as many -/
theorem dd_full {xs : List Str} (h : (dd xs).length = xs.length) : xs.Nodup := by
  have key : ∀ (ys m : List Str), m.Nodup → (ys.foldl dd1 m).length = m.length + ys.length → (m ++ ys).Nodup := by
    intro ys
    induction ys with
    | nil => intro m hm _; simpa using hm
    | cons v r ih =>
      intro m hm e
      rw [List.foldl_cons] at e
      have hv : ¬ v ∈ m := fun z => by
        have e1 : dd1 m v = m := if_pos z
        rw [e1] at e
        have := dd_le r m
        rw [List.length_cons] at e
        omega
      have e1 : dd1 m v = m ++ [v] := if_neg hv
      rw [e1] at e
      have hm2 : (m ++ [v]).Nodup := by
        rw [List.nodup_append]
        exact ⟨hm, by simp, fun a ha b hb e2 => by
          have : b = v := by simpa using hb
          exact hv (this ▸ e2 ▸ ha)⟩
      have := ih (m ++ [v]) hm2 (by rw [e, List.length_append, List.length_cons]; simp; omega)
      rw [List.append_assoc] at this
      exact this
  have := key xs [] List.nodup_nil (by rw [List.length_nil, Nat.zero_add]; exact h)
  simpa using this
/-! ### a set of texts that can be walked -/
def signE (e : Int × Value) : Str := match e.2 with | .str z _ => z | _ => Str.empty
def TextE (P : Program) (w : World) (e : Int × Value) : Prop := ∃ z tk, e.2 = Value.str z tk ∧ e.1 = (PySem.strKind P w).hash z
/-- at a lies the set of the texts m -/
def SetW (P : Program) (w : World) (h : Heap) (a : Addr) (m : List Str) : Prop :=
  ∃ ob ms n tb, h.get? a = some ob ∧ ob.ExactSet ∧ ob.data = .set ms n tb ∧ (∀ e ∈ ms.toList, TextE P w e) ∧ (ms.toList.map signE).Perm m ∧
    ms.size < scanBound ∧ tb.fits ms.size = true ∧ Ris tb.place.toList ∧ (w.params.followText "set-order" = true ∨ tb.led = true)
section
variable {P : Program} {w : World} {A : Around} {E : Value → Shared → Prop} {s : Shared} {a : Addr} {m : List Str}
theorem text_elems {l : List (Int × Value)} (g : ∀ e ∈ l, TextE P w e) : ElemsOf (PySem.strKind P w) l := fun e he => by
  obtain ⟨z, tk, e1, e2⟩ := g e he
  exact ⟨⟨z, by rw [e1]; exact strKind_is P w z tk, e2⟩, by rw [e1]; rfl⟩
theorem text_is {e : Int × Value} (g : TextE P w e) (z : Str) : (PySem.strKind P w).is z e.2 = true ↔ signE e = z := by
  obtain ⟨y, tk, e1, _⟩ := g
  unfold signE
  rw [e1]
  show ((y == z) = true) ↔ y = z
  exact beq_iff_eq
/-- behind the laying: the table may be laid anew -/
theorem add_rest {gave : Bool → Sem Unit} (hg : ∀ (b : Bool) (s1 : Shared) (Q1 : Unit → Shared → Prop), Q1 () s1 → wpAny (model P w) A (gave b) Q1 E s1)
    {ob : Obj} {ms : Array (Int × Value)} {n : Nat} {tb : SetTable} (at0 : s.heap.get? a = some ob) (ex : ob.ExactSet) (da : ob.data = .set ms n tb)
    {ms1 : Array (Int × Value)} {tb1 : SetTable} (te : ∀ e ∈ ms1.toList, TextE P w e) (pm1 : (ms1.toList.map signE).Perm m)
    (few : ms1.size < scanBound) (fit : tb1.fits ms1.size = true) (ris : Ris tb1.place.toList) (led : w.params.followText "set-order" = true ∨ tb1.led = true) {dum : Bool} {R : Option Bool → Shared → Prop}
    (hR : ∀ h1, Heap.SameBut a s.heap h1 → SetW P w h1 a m → R (some true) { s with heap := h1 }) :
    wpAny (model P w) A (do
        storeSet a ms1 tb1
        if (!dum && tb1.tooFull) = true then do
            gave (relayAll tb1 ms1 (SetTable.grown ms1.size)).2.2
            storeSet a (relayAll tb1 ms1 (SetTable.grown ms1.size)).1 (relayAll tb1 ms1 (SetTable.grown ms1.size)).2.1
            pure (some true)
          else pure (some true)) R E s := by
  refine wpAny_bind (wpAny_storeSet_of at0 da ?_ (fits_of_scanBound few))
  have at1 := store_at (es' := ms1) (t' := tb1) at0 da
  have same1 := Heap.SameBut.update s.heap a (Obj.putSet ms1 tb1)
  split
  · have q1 := relayAll_perm tb1 ms1 (SetTable.grown ms1.size)
    have q2 := relayAll_fits tb1 ms1 (SetTable.grown ms1.size)
    have q3 := relayAll_ris tb1 ms1 (SetTable.grown ms1.size)
    have q4 := relayAll_led tb1 ms1 (SetTable.grown ms1.size)
    generalize relayAll tb1 ms1 (SetTable.grown ms1.size) = Z at q1 q2 q3 q4 ⊢
    obtain ⟨ms2, tb2, gv⟩ := Z
    dsimp only at q1 q2 q3 q4 ⊢
    have sz : ms2.size = ms1.size := by rw [← Array.length_toList, q1.length_eq, Array.length_toList]
    have few2 : ms2.size < scanBound := by rw [sz]; exact few
    refine wpAny_bind (hg _ _ _ ?_)
    refine wpAny_bind (wpAny_storeSet_of at1 rfl ?_ (fits_of_scanBound few2))
    have at2 := store_at (es' := ms2) (t' := tb2) at1 rfl
    refine wpAny_pure (hR _ (same1.trans (Heap.SameBut.update _ a _)) ?_)
    exact ⟨_, ms2, _, tb2, at2, ex, rfl, fun e he => te e (q1.mem_iff.mp he), (q1.map signE).trans pm1, few2, q2, q3, led.imp id fun z => by rw [q4]; exact z⟩
  · exact wpAny_pure (hR _ same1 ⟨_, ms1, _, tb1, at1, ex, rfl, te, pm1, few, fit, ris, led⟩)
theorem setW_add {k : Str} {tk : Tok} {Q : Bool → Shared → Prop} (W : SetW P w s.heap a m) (room : m.length + 1 < scanBound)
    (hQ : ∀ h1 b, Heap.SameBut a s.heap h1 → SetW P w h1 a (dd1 m k) → Q b { s with heap := h1 }) :
    wpAny (model P w) A (setAddHashed a (.str k tk) ((PySem.strKind P w).hash k)) Q E s := by
  obtain ⟨ob, ms, n, tb, at0, ex, da, te, pm, few, fit, ris, led⟩ := W
  have isk : (PySem.strKind P w).is k (.str k tk) = true := strKind_is P w k tk
  have sc : (Value.str k tk).scannable = true := rfl
  have el : ElemsOf (PySem.strKind P w) ms.toList := text_elems te
  unfold setAddHashed setAddHashedIn
  refine wpAny_holding (wpAny_bind (wpAny_setState_of at0 da fit ?_))
  dsimp only
  rw [byScan_of sc few el]
  simp only [↓reduceIte]
  unfold setAddByScan
  refine wpAny_bind (wpAny_bind (wpAny_rule (wpAny_bind (wpAny_setScan_of isk at0 da fit el ?_))))
  cases found : List.findIdx? (fun e => (PySem.strKind P w).is k e.2) ms.toList with
  | some j =>
    dsimp only
    obtain ⟨lt, ej, _⟩ := List.findIdx?_eq_some_iff_getElem.mp found
    have km : k ∈ m := pm.mem_iff.mp (List.mem_map.mpr ⟨_, List.getElem_mem lt, (text_is (te _ (List.getElem_mem lt)) k).mp ej⟩)
    refine wpAny_pure (wpAny_pure ?_)
    refine hQ s.heap _ (Heap.SameBut.refl a s.heap) ⟨ob, ms, n, tb, at0, ex, da, te, ?_, few, fit, ris, led⟩
    unfold dd1
    rw [if_pos km]
    exact pm
  | none =>
    dsimp only
    have km : k ∉ m := fun z => by
      obtain ⟨e, he, q⟩ := List.mem_map.mp (pm.mem_iff.mpr z)
      have c := List.findIdx?_eq_none_iff.mp found e he
      rw [(text_is (te e he) k).mpr q] at c
      cases c
    have q1 := layNew_perm tb ms ((PySem.strKind P w).hash k) (.str k tk)
    have q2 := layNew_fits tb ms ((PySem.strKind P w).hash k) (.str k tk)
    have q3 := layNew_ris tb ms ((PySem.strKind P w).hash k) (.str k tk) ris
    have q4 := layNew_led tb ms ((PySem.strKind P w).hash k) (.str k tk)
    generalize layNew tb ms ((PySem.strKind P w).hash k) (.str k tk) = Z at q1 q2 q3 q4 ⊢
    obtain ⟨ms1, tb1, dum, gv⟩ := Z
    dsimp only at q1 q2 q3 q4 ⊢
    rw [Array.toList_push] at q1
    have te1 : ∀ e ∈ ms1.toList, TextE P w e := fun e he => by
      rcases List.mem_append.mp (q1.mem_iff.mp he) with z | z
      · exact te e z
      · rw [List.mem_singleton.mp z]
        exact ⟨k, tk, rfl, rfl⟩
    have pm1 : (ms1.toList.map signE).Perm (dd1 m k) := by
      have q := q1.map signE
      rw [List.map_append] at q
      unfold dd1
      rw [if_neg km]
      exact q.trans (pm.append_right _)
    have sz : ms1.size = m.length + 1 := by
      rw [← Array.length_toList, q1.length_eq, List.length_append, ← pm.length_eq, List.length_map]
      rfl
    have few1 : ms1.size < scanBound := by rw [sz]; exact room
    have led1 : w.params.followText "set-order" = true ∨ tb1.led = true := led.imp id fun z => by rw [q4]; exact z
    refine wpAny_bind (?_ : wpAny _ _ (match gv with | true => rule "set.scan.the-table-gave-way" | false => pure ()) _ _ _)
    have hgv : ∀ (b : Bool) {s1 : Shared} {Q1 : Unit → Shared → Prop}, Q1 () s1 → wpAny (model P w) A (match b with | true => rule "set.scan.the-table-gave-way" | false => pure ()) Q1 E s1 := fun b s1 Q1 q => by
      cases b
      · exact wpAny_pure q
      · exact wpAny_rule q
    refine hgv _ ?_
    split
    · refine wpAny_bind ?_
      rw [hashByValue_scannable 8 sc]
      refine wpAny_pure ?_
      refine add_rest ?_ at0 ex da te1 pm1 few1 ?_ ?_ ?_ ?_
      · intro b s1 Q1 q; cases b <;> first | exact wpAny_pure q | exact wpAny_rule q
      · first | (split <;> first | exact q2 | exact SetTable.fits_plain_off q2) | exact q2
      · first | (split <;> exact q3) | exact q3
      · first | (split <;> exact led1) | exact led1
      · intro h1 sb r; dsimp only; exact wpAny_pure (hQ h1 _ sb r)
    · refine wpAny_bind (wpAny_pure ?_)
      simp only [↓reduceIte]
      refine add_rest ?_ at0 ex da te1 pm1 few1 q2 q3 led1 ?_
      · intro b s1 Q1 q; cases b <;> first | exact wpAny_pure q | exact wpAny_rule q
      · intro h1 sb r; dsimp only; exact wpAny_pure (hQ h1 _ sb r)
/-- a new set -/
theorem new_set (x : Value) {Q1 : Value → Shared → Prop}
    (q : ∀ tb : SetTable, tb = .fresh 0 0 (!w.params.followText "set-order") → Q1 (.ref s.heap.objs.size) { s with heap := s.heap.push { cls := .type "set", dict := none, data := .set #[] 0 tb } }) :
    codeAny (model P w) A (.call (.builtin "set.__new__") ⟨[.type "set", x], []⟩) (wants Q1 E) s := by
  refine codeAny_of_tree (?_ : wpAny _ A.in1 (do checkBuiltinCall "set.__new__" ⟨[.type "set", x], []⟩; again (.builtin "set.__new__" ⟨[.type "set", x], []⟩)) _ _ s)
  refine wpAny_bind (wpAny_of_eq (PySem.F.newCall_set_1 x) (wpAny_pure ⟨plainId_quiet PySem.F.plain_set_new _, codeAny_builtin PySem.F.entry_set_new (?_ : wpAny _ _ _ _ _ s)⟩))
  rw [Around.under_plainId PySem.F.plain_set_new _]
  have below := sub_set_self
  unfold Builtin.«set.__new__» Builtin.Frozenset.newClass
  obtain ⟨h0, g0, d0, t0, o0⟩ := s
  dsimp only
  wp_walk
  refine wpAny_askSetting (wpAny_pure ?_)
  dsimp only
  simp only [newObj]
  exact wpAny_bind (wpAny_alloc (wpAny_pure (wpAny_pure (q _ rfl))))
theorem setW_fresh {h : Heap} (g : h.get? a = some { cls := .type "set", dict := none, data := .set #[] 0 (.fresh 0 0 (!w.params.followText "set-order")) }) : SetW P w h a [] := by
  refine ⟨_, #[], 0, _, g, ⟨rfl, rfl, rfl⟩, rfl, (fun e he => by simp at he), (by simp), (by decide), (by rfl), List.Pairwise.nil, ?_⟩
  show _ ∨ (!w.params.followText "set-order") = true
  cases w.params.followText "set-order"
  · exact .inr rfl
  · exact .inl rfl
end
section
variable {prog : Program} {w : World} {A : Around} {R : Result → Shared → Prop} {I : Addr} {fp wr : List Addr} {G : Array GenState → Array GenState → Prop} {n : Nat} {Pn : Nat → Value → Prop} {St : Nat → Shared → Prop}
/-- S holds the unlike ones of the first i -/
def SetAtS (prog : Program) (w : World) (h : Heap) (S : Addr) (xs : List Str) : Prop := SetW prog w h S (dd xs)
theorem set_loop (W : WalksS prog w A.in1 I fp wr G n Pn St) (S : Addr) (out : S ∉ fp) (xs : List Str) (size : xs.length = n) (room : n + 1 < scanBound)
    (vals : ∀ i v, Pn i v → ∃ t, v = .str (xs.getD i Str.empty) t) :
    ∀ (m i : Nat) (s : Shared), i + m = n → St i s → SetAtS prog w s.heap S (xs.take i) →
      (∀ s', Moved (S :: wr) G s s' → SetAtS prog w s'.heap S xs → R (.ok (.ret .none)) s') →
      codeAny (model prog w) A (.builtin "set.update.loop" ⟨[.ref S, .ref I], []⟩) R s := by
  have outw : S ∉ wr := fun z => out (W.sub _ z)
  have more : ∀ b ∈ wr, b ∈ S :: wr := fun b z => List.mem_cons_of_mem _ z
  have stay : ∀ {s s' : Shared} {ys : List Str}, Moved wr G s s' → SetAtS prog w s.heap S ys → SetAtS prog w s'.heap S ys := fun mv hS => by
    obtain ⟨o, es, ep, tb, ho, rest⟩ := hS
    exact ⟨o, es, ep, tb, mv.heap S _ outw ho, rest⟩
  intro m
  induction m with
  | zero =>
    intro i s im hst hS hR
    have ei : i = n := by omega
    subst ei
    rw [← size, List.take_length] at hS
    refine codeAny_builtin PyProof.Rows.F.entry_set_update_loop (?_ : wpAny _ _ _ _ _ s)
    rw [Around.under_plainId PyProof.Rows.F.plain_set_update_loop _]
    show wpAny _ A.in1 (pyNext (.ref I) >>= _) _ _ s
    exact wpAny_bind (W.done s _ _ hst fun s' mv => wpAny_pure (hR s' (mv.mono more) (stay mv hS)))
  | succ m ih =>
    intro i s im hst hS hR
    have lt : i < n := by omega
    refine codeAny_builtin PyProof.Rows.F.entry_set_update_loop (?_ : wpAny _ _ _ _ _ s)
    rw [Around.under_plainId PyProof.Rows.F.plain_set_update_loop _]
    show wpAny _ A.in1 (pyNext (.ref I) >>= _) _ _ s
    refine wpAny_bind (W.item i s _ _ lt hst fun v s1 pv st1 mv => ?_)
    obtain ⟨t, rfl⟩ := vals i v pv
    have e : xs[i]? = some (xs.getD i Str.empty) := by
      rw [List.getD_eq_getElem?_getD, List.getElem?_eq_getElem (by omega)]
      rfl
    generalize xs.getD i Str.empty = x at e
    have hS1 := stay mv hS
    show wpAny _ A.in1 (holding [Value.str x t] (setAdd S (.str x t)) >>= _) _ _ s1
    refine wpAny_bind (wpAny_holding ?_)
    unfold setAdd
    refine wpAny_holding (wpAny_bind ((PySem.strKind prog w).pyHash (k := x) (strKind_is _ _ _ _) ?_))
    have few : (dd (xs.take i)).length + 1 < scanBound := by
      have := dd_le (xs.take i) []
      have h2 : (xs.take i).length ≤ n := by rw [List.length_take]; omega
      have h3 : (dd (xs.take i)).length ≤ (xs.take i).length := by simpa [dd] using this
      omega
    refine setW_add (s := { s1 with toks := s1.toks + 1 }) hS1 few fun h2 _ same hS2 => ?_
    have next : SetAtS prog w h2 S (xs.take (i + 1)) := by
      unfold SetAtS
      rw [dd_more e]
      exact hS2
    refine wpAny_pure ⟨plainId_quiet PyProof.Rows.F.plain_set_update_loop _, ih (i + 1) _ (by omega) (W.frame _ s1 _ _ st1 (Nat.le_succ _) fun b hb o z => ?_) next fun s3 mv3 hS3 => hR s3 (Moved.trans W.gtrans ((mv.mono more).then_heap (Nat.le_succ _) fun b o hb z => ?_) mv3) hS3⟩
    · rw [same.2 b fun q => out (q ▸ hb)]
      exact z
    · rw [same.2 b fun q => hb (q ▸ List.mem_cons_self)]
      exact z
end
section
variable {prog : Program} {w : World} {A : Around} {E : Value → Shared → Prop} {s : Shared}
/-- an empty set, new -/
abbrev set0 (led : Bool) : Obj := { cls := .type "set", dict := none, data := .set #[] 0 (.fresh 0 0 led) }
set_option maxHeartbeats 3200000 in
/-- set(xs), xs a list of texts -/
theorem set_of_list {l : Addr} {its : Array Value} {xs : List Str} {Q : Value → Shared → Prop} (calm : A.handled = none) (hl : s.heap.IsList l its) (hi : StrsAre its.toList xs) (room : xs.length + 1 < scanBound)
    (q : ∀ (h2 : Heap) (tk : Nat), SetAtS prog w h2 s.heap.objs.size xs → (∀ b o, b < s.heap.objs.size → s.heap.get? b = some o → h2.get? b = some o) → Q (.ref s.heap.objs.size) { s with heap := h2, toks := tk }) :
    wpAny (model prog w) A (call (.type "set") [.ref l]) Q E s := by
  obtain ⟨_, _, way⟩ := PySem.F.called_set.mro
  have f1 := PySem.F.called_set.made
  have f2 := PySem.F.called_set.sub
  have f3 := PySem.F.called_set.notType
  have f4 := PySem.F.called_set.canCreate
  have f5 := PySem.F.typeCall_set_1 (.ref l)
  refine wpAny_call (codeAny_of_tree (?_ : wpAny _ _ (callAny (.type "set") _) _ _ _))
  refine wpAny_pure ⟨Code.quiet_builtin _ (by decide +kernel), codeAny_builtin PySem.F.entry_type_call (?_ : wpAny _ _ _ _ _ _)⟩
  rw [Around.under_plain (weight_type_call_type "set" [.ref l] []) rfl]
  repeat (any_goals (first | assumption | wp_step))
  refine codeAny_mono (new_set (.ref l) (E := E) (Q1 := fun u s1 => ∃ led : Bool, u = .ref s.heap.objs.size ∧ s1 = { s with heap := s.heap.push (set0 led) } ∧ led = !w.params.followText "set-order") fun tb e => ⟨_, rfl, by rw [e], rfl⟩) fun r s1 hr => ?_
  cases r with
  | error e => exact hr
  | ok fl =>
    cases fl with
    | next => exact hr.elim
    | brk => exact hr.elim
    | cont => exact hr.elim
    | ret u =>
      obtain ⟨led, rfl, rfl, eled⟩ := hr
      have g0 : (s.heap.push (set0 led)).get? s.heap.objs.size = some (set0 led) := Heap.get?_push_size _ rfl
      have ty : Shared.TypeIs { s with heap := s.heap.push (set0 led) } (.ref s.heap.objs.size) "set" := ⟨_, g0, rfl⟩
      have f6 := PySem.F.called_set.init.lookup
      have f7 := PySem.F.called_set.init.bind (.ref s.heap.objs.size)
      repeat (any_goals (first | assumption | wp_step))
      refine codeAny_mono (codeAny_call_builtin (R := wants (fun r s2 => r = .none ∧ ∃ h2 tk, s2 = { s with heap := h2, toks := tk } ∧ SetAtS prog w h2 s.heap.objs.size xs ∧ (∀ b o, b < s.heap.objs.size → s.heap.get? b = some o → h2.get? b = some o)) E)
        PySem.F.called_set.init.plain PySem.F.entry_set_init (check_set_init_1 ty ?_)) fun r2 s2 hr2 => ?_
      · obtain ⟨⟨c, d, da, sl⟩, ol, cl, nl, dl⟩ := hl
        simp only at cl dl
        subst cl dl
        have ol1 : (s.heap.push (set0 led)).get? l = some { cls := .type "list", dict := d, data := .seq its nl, slots := sl } := Heap.get?_push_of_some _ ol
        have f8 := PySem.F.sub_list_set
        have f9 := PySem.F.sub_list_frozenset
        have f10 : (Value.type "list" == Value.type "dict") = false := by decide
        have hl1 : (s.heap.push (set0 led)).IsList l its := ⟨_, ol1, rfl, nl, rfl⟩
        unfold Builtin.«set.__init__» noKeywords Builtin.Frozenset.updateFrom
        generalize hPI : pyIter = PI
        wp_walk
        subst hPI
        refine wpAny_pyIter_list hl1 (wpAny_bind (wpAny_runValue ?_))
        have below : l < s.heap.objs.size := Heap.lt_size ol
        have sz1 : (s.heap.push (set0 led)).objs.size = s.heap.objs.size + 1 := Heap.size_push _ _
        have n1 : l ≠ (s.heap.push (set0 led)).objs.size := by
          rw [sz1]
          exact Nat.ne_of_lt (Nat.lt_succ_of_lt below)
        have out : s.heap.objs.size ∉ [(s.heap.push (set0 led)).objs.size, l] := by
          rw [sz1]
          simp only [List.mem_cons, List.not_mem_nil, or_false, not_or]
          exact ⟨Nat.ne_of_lt (Nat.lt_succ_self _), Nat.ne_of_gt below⟩
        have size : xs.length = its.size := by rw [← StrsAre.len_eq hi, Array.length_toList]
        have vals : ∀ (i : Nat) (v : Value), its[i]? = some v → ∃ t, v = .str (xs.getD i Str.empty) t := fun i v z => SS.strs_at hi i v (by rw [Array.getElem?_toList]; exact z)
        refine set_loop ((Walks.list (show A.in1.in1.in1.handled = none by simp [calm]) _ l n1 its).toS) s.heap.objs.size out xs size (by rw [← size]; exact room) vals its.size 0 _ (by omega) ⟨⟨_, Heap.get?_push_size _ rfl, rfl, rfl⟩, (hl1.push _)⟩ ?start ?stop
        case start =>
          have g1 : ((s.heap.push (set0 led)).push { cls := .type "list_iterator", data := .fields #[.ref l, .int 0 0] }).get? s.heap.objs.size = some (set0 led) := Heap.get?_push_of_some _ g0
          exact setW_fresh (g1.trans (by rw [eled]))
        case stop =>
          rintro ⟨h2, g2, d2, tk2, os2⟩ mv hS
          obtain rfl : g2 = s.gens := mv.gens
          obtain rfl : d2 = s.drawn := mv.drawn
          obtain rfl : os2 = s.os := mv.os
          refine wpAny_pure (?_ : wpAny _ _ (ret Value.none) _ _ _)
          refine wpAny_pure ⟨rfl, h2, tk2, rfl, hS, fun b o hb z => mv.heap b o ?_ (Heap.get?_push_of_some _ (Heap.get?_push_of_some _ z))⟩
          simp only [List.mem_cons, List.not_mem_nil, or_false, not_or]
          exact ⟨Nat.ne_of_lt hb, by rw [sz1]; exact Nat.ne_of_lt (Nat.lt_succ_of_lt hb)⟩
      · cases r2 with
        | error e => exact hr2
        | ok fl2 =>
          cases fl2 with
          | next => exact hr2.elim
          | brk => exact hr2.elim
          | cont => exact hr2.elim
          | ret r =>
            obtain ⟨rfl, h2, tk, rfl, hS, keep⟩ := hr2
            repeat (any_goals (first | assumption | wp_step))
            exact q _ _ hS keep
end
/-- len(set(xs)) -/
def tLenSetS (K : PySem.W.Frag) (ta : TE) : TE := fun σ H Q => ta σ H fun x H1 => ∃ (l : Addr) (xs : List Str), x = .ref l ∧ SqL K H1 l (xs.map V.str) ∧ xs.length ≤ 1000 ∧ Q (.int ((dd xs).length : Nat)) H1
theorem pe_lenSetS {X : Cx} (K : PySem.W.Frag) {a : Expr} {ta : TE} {p p2 q pos : Pos} (hc : X.calm = true) (hm : X.mg "len" = none) (hm2 : X.mg "set" = none) (ha : PE X a ta) (hk : X.K = K := by rfl) (hg : Gl X "len" := by rfl) (hg2 : Gl X "set" := by rfl)
    (na : starEach [a] X.env = (false, eval a X.env) :: starEach [] X.env := by rfl) : PE X (.Call (.Name "len" p) [.Call (.Name "set" p2) [a] [] q] [] pos) (tLenSetS K ta) := by
  subst hk
  refine ⟨fun pins s σ H Q I h => ?_⟩
  refine Call_ (ld_blt I hg hm boot_len (PyProof.Rows.callWith_builtin1 (PyProof.Rows.args_cons ?_ rfl) rfl rfl))
  refine Call_ (ld_blt I hg2 hm2 boot_set ?_)
  refine PyProof.Rows.callWith_type1 (PyProof.Rows.args_cons (thn (ha.run pins s σ H _ I h) fun v s1 ⟨x, H1, I1, r1, q1⟩ => PyProof.Rows.args_nil ?_) na) na rfl
  obtain ⟨l, xs, rfl, hq, small, q1⟩ := q1
  cases r1
  obtain ⟨its, r, pl, hz⟩ := I1.list hq
  refine set_of_list (I1.ok.hd hc) pl.isList (by simpa using strsAre_of r) (by unfold scanBound; omega) fun h2 tk hS keep => PyProof.Rows.args_nil ?_
  obtain ⟨o, es, ep, t, ho, hex, hd, _, pm, _, hf, _⟩ := hS
  have hn : es.size = (dd xs).length := by rw [← pm.length_eq, List.length_map, Array.length_toList]
  have I2 : Inv X pins σ H1 { s1 with heap := h2, toks := tk } := I1.kept fun b o e => keep b o (Heap.lt_size e) e
  have few := dd_le xs []
  have few2 : (dd xs).length ≤ xs.length := by simpa [dd] using few
  exact call_len_set ho hex hd hf (by rw [hn]; omega) ⟨.int ((dd xs).length : Nat), H1, I2.tok _, ⟨_, by rw [hn]⟩, q1⟩
/-- sorted(set(xs)) -/
def tSortSetS (K : PySem.W.Frag) (ta : TE) : TE := fun σ H Q => ta σ H fun x H1 => ∃ (l : Addr) (xs : List Str), x = .ref l ∧ SqL K H1 l (xs.map V.str) ∧ xs.length < 64 ∧
  ∀ (ys : List Str) (p : Addr), ys.Perm (dd xs) → sortedS ys = true → H1 p = none → Q (.ref p) (upd H1 p (.lst (ys.map V.str)))
theorem texts_are {P : Program} {w : World} : ∀ {es : List (Int × Value)}, (∀ e ∈ es, TextE P w e) → StrsAre (es.map (·.2)) (es.map signE)
  | [], _ => .nil
  | e :: es, h => by
    obtain ⟨z, tk, e1, _⟩ := h e List.mem_cons_self
    have e2 : signE e = z := by
      unfold signE
      rw [e1]
    rw [List.map_cons, List.map_cons, e1, e2]
    exact .cons _ _ (texts_are fun x hx => h x (List.mem_cons_of_mem _ hx))
theorem strs_perm {us vs : List Value} (p : us.Perm vs) : ∀ {xs : List Str}, StrsAre vs xs → ∃ ys, StrsAre us ys ∧ ys.Perm xs := by
  induction p with
  | nil => exact fun h => ⟨_, h, .refl _⟩
  | cons x _ ih =>
    intro xs h
    cases h with
    | cons z tk h =>
      obtain ⟨ys, h1, h2⟩ := ih h
      exact ⟨_, .cons z tk h1, h2.cons z⟩
  | swap x y l =>
    intro xs h
    cases h with
    | cons z tk h =>
      cases h with
      | cons z2 tk2 h => exact ⟨_, .cons z2 tk2 (.cons z tk h), .swap z z2 _⟩
  | trans _ _ ih1 ih2 =>
    intro xs h
    obtain ⟨ys, h1, h2⟩ := ih2 h
    obtain ⟨zs, h3, h4⟩ := ih1 h1
    exact ⟨zs, h3, h4.trans h2⟩
theorem pe_sortSetS {X : Cx} (K : PySem.W.Frag) {a : Expr} {ta : TE} {p p2 q pos : Pos} (hc : X.calm = true) (hm : X.mg "sorted" = none) (hm2 : X.mg "set" = none) (ha : PE X a ta) (hk : X.K = K := by rfl) (hg : Gl X "sorted" := by rfl) (hg2 : Gl X "set" := by rfl)
    (na : starEach [a] X.env = (false, eval a X.env) :: starEach [] X.env := by rfl) : PE X (.Call (.Name "sorted" p) [.Call (.Name "set" p2) [a] [] q] [] pos) (tSortSetS K ta) := by
  subst hk
  refine ⟨fun pins s σ H Q I h => ?_⟩
  refine Call_ (ld_blt I hg hm boot_sorted (PyProof.Rows.callWith_builtin1 (PyProof.Rows.args_cons ?_ rfl) rfl rfl))
  refine Call_ (ld_blt I hg2 hm2 boot_set ?_)
  refine PyProof.Rows.callWith_type1 (PyProof.Rows.args_cons (thn (ha.run pins s σ H _ I h) fun v s1 ⟨x, H1, I1, r1, q1⟩ => PyProof.Rows.args_nil ?_) na) na rfl
  obtain ⟨l, xs, rfl, hq, small, q1⟩ := q1
  cases r1
  obtain ⟨its, r, pl, hz⟩ := I1.list hq
  refine set_of_list (I1.ok.hd hc) pl.isList (by simpa using strsAre_of r) (by unfold scanBound; omega) fun h2 tk hS keep => PyProof.Rows.args_nil ?_
  obtain ⟨o, ms, n, tb, ho, hex, hd, te, pm, few, fit, ris, led⟩ := hS
  have I2 : Inv X pins σ H1 { s1 with heap := h2, toks := tk } := I1.kept fun b o e => keep b o (Heap.lt_size e) e
  have few2 : (dd xs).length ≤ xs.length := by
    have := dd_le xs []
    simpa [dd] using this
  refine Calls.call_function_entry PyProof.Rows.kind_sorted PyProof.Rows.plain_sorted PyProof.Rows.entry_sorted (PyProof.Rows.args_sorted1 _) ?_
  unfold Builtin.«sorted»
  refine wpAny_bind (m := checkCount "sorted" 1 1 _) (wpAny_pure ?_)
  refine wpAny_bind (collect_set (A := X.A.in1) (I1.ok.hd hc) ⟨o, ho, hex.1, hd⟩ fit few ris led fun s3 vs k3 z3 g3 o3 p3 => ?_)
  obtain ⟨zs, sA, pz⟩ := strs_perm p3 (texts_are te)
  have vl : vs.length < 64 := by
    have e1 := StrsAre.len_eq sA
    have e2 := pz.length_eq
    have e3 := pm.length_eq
    omega
  refine wpAny_bind (wpAny_newList ?_ (small64 vl))
  have at4 : (s3.heap.push (seqObj "list" vs.toArray 0)).get? s3.heap.objs.size = some (seqObj "list" vs.toArray 0) := Heap.get?_push_size _ rfl
  refine wpAny_bind (wpAny_holding (wpAny_call_entry PyProof.Rows.slot_list_sort ⟨_, at4, rfl⟩ PyProof.Rows.entry_list_sort
    (list_sort_treeK strKind_oneLt (s := { s3 with heap := s3.heap.push (seqObj "list" vs.toArray 0) }) at4 sA.keysOf (fun v1 v2 rest e => keyKind_strs (by rw [← e]; exact sA)) vl fun st2 hp hs => ⟨_, rfl, ?_⟩)
    (PyProof.Rows.args_list_sort _)))
  obtain ⟨ys, y1, y2, y3⟩ := sorted_out_str sA hp hs
  obtain ⟨n5, at5⟩ := PyProof.Rows.sortedHeap_at (vs := vs) (out := (arrOf st2).map (·.2)) at4
  have yl : (ys.map V.str).length ≤ sizeLine := by
    rw [List.length_map, y2.length_eq, ← StrsAre.len_eq sA]
    exact small64 vl
  have k4 : ∀ b u, s1.heap.get? b = some u → (PyProof.Rows.sortedHeap (s3.heap.push (seqObj "list" vs.toArray 0)) s3.heap.objs.size vs ((arrOf st2).map (·.2))).get? b = some u := fun b u e => by
    have e3 := k3 b u (keep b u (Heap.lt_size e) e)
    have lt3 : b < s3.heap.objs.size := Heap.lt_size e3
    rw [PyProof.Rows.sortedHeap_old (Nat.ne_of_lt lt3) (by rw [size_push']; exact Nat.lt_succ_of_lt lt3)]
    exact Heap.get?_push_of_some _ e3
  have up : s1.heap.objs.size ≤ s3.heap.objs.size := Nat.le_trans (Nat.le_of_lt (Heap.lt_size ho)) z3
  have fr : H1 s3.heap.objs.size = none := I1.hok.fresh up
  have J : Inv X pins σ (upd H1 s3.heap.objs.size (.lst (ys.map V.str))) { s1 with heap := PyProof.Rows.sortedHeap (s3.heap.push (seqObj "list" vs.toArray 0)) s3.heap.objs.size vs ((arrOf st2).map (·.2)), gens := s3.gens, drawn := s3.drawn, toks := s3.toks } :=
    I1.call (ch := []) (Un.laid k4 up fr) (I1.hok.laid k4 up ⟨yl, ((arrOf st2).map (·.2)).toList, n5, vals_of_strs y1, by rw [Array.toArray_toList]; exact at5⟩) (by rw [g3]; exact I1.bare) (fun _ z => nomatch z)
  have es : ({ s3 with heap := PyProof.Rows.sortedHeap (s3.heap.push (seqObj "list" vs.toArray 0)) s3.heap.objs.size vs ((arrOf st2).map (·.2)) } : Shared) = { s1 with heap := PyProof.Rows.sortedHeap (s3.heap.push (seqObj "list" vs.toArray 0)) s3.heap.objs.size vs ((arrOf st2).map (·.2)), gens := s3.gens, drawn := s3.drawn, toks := s3.toks } := by
    cases s3
    cases s1
    cases o3
    rfl
  refine wpAny_pure ⟨_, rfl, ?_⟩
  show EP X pins σ Q (.ref s3.heap.objs.size) { s3 with heap := PyProof.Rows.sortedHeap (s3.heap.push (seqObj "list" vs.toArray 0)) s3.heap.objs.size vs ((arrOf st2).map (·.2)) }
  rw [es]
  exact ⟨.ref _, _, J, rfl, q1 ys _ (y2.trans (pz.trans pm)) y3 fr⟩
end Dear

namespace Dear
open PySem PySem.Spec PyProof.Rows L2
/-! ### data, and how the heap bears them -/
inductive D where
  | non | bl (b : Bool) | int (i : Int) | str (z : Str) | lst (ds : List D) | tup (ds : List D) | dct
def kind : D → String
  | .non => "NoneType" | .bl _ => "bool" | .int _ => "int" | .str _ => "str" | .lst _ => "list" | .tup _ => "tuple" | .dct => "dict"
mutual
inductive Dt (H : Hp) : V → D → Prop
  | non : Dt H .non .non
  | bl (b : Bool) : Dt H (.bl b) (.bl b)
  | int (i : Int) : Dt H (.int i) (.int i)
  | str (z : Str) : Dt H (.str z) (.str z)
  | lst {a : Addr} {xs : List V} {ds : List D} : H a = some (.lst xs) → DtAll H xs ds → Dt H (.ref a) (.lst ds)
  | tup {a : Addr} {xs : List V} {ds : List D} : H a = some (.tup xs) → DtAll H xs ds → Dt H (.ref a) (.tup ds)
  | dct {a : Addr} {kvs : List (Key × V)} : H a = some (.dK kvs) → Dt H (.ref a) .dct
inductive DtAll (H : Hp) : List V → List D → Prop
  | nil : DtAll H [] []
  | cons {v : V} {vs : List V} {d : D} {ds : List D} : Dt H v d → DtAll H vs ds → DtAll H (v :: vs) (d :: ds)
end
mutual
theorem Dt.same {H H' : Hp} (s : Same H H') : ∀ {v : V} {d : D}, Dt H v d → Dt H' v d
  | _, _, .non => .non
  | _, _, .bl b => .bl b
  | _, _, .int i => .int i
  | _, _, .str z => .str z
  | _, _, .lst h a => .lst (s _ _ h) (DtAll.same s a)
  | _, _, .tup h a => .tup (s _ _ h) (DtAll.same s a)
  | _, _, .dct h => .dct (s _ _ h)
theorem DtAll.same {H H' : Hp} (s : Same H H') : ∀ {vs : List V} {ds : List D}, DtAll H vs ds → DtAll H' vs ds
  | _, _, .nil => .nil
  | _, _, .cons a b => .cons (Dt.same s a) (DtAll.same s b)
end
theorem DtAll.length {H : Hp} : ∀ {vs : List V} {ds : List D}, DtAll H vs ds → vs.length = ds.length
  | _, _, .nil => rfl
  | _, _, .cons _ b => by rw [List.length_cons, List.length_cons, DtAll.length b]
theorem DtAll.get {H : Hp} : ∀ {vs : List V} {ds : List D} {i : Nat} {v : V}, DtAll H vs ds → vs[i]? = some v → ∃ d, ds[i]? = some d ∧ Dt H v d
  | _, _, _, _, .nil, e => by simp at e
  | _, _, 0, _, .cons a _, e => by
    simp at e
    subst e
    exact ⟨_, rfl, a⟩
  | _, _, i + 1, v, .cons _ b, e => by
    obtain ⟨d, h1, h2⟩ := DtAll.get (i := i) (v := v) b (by simpa using e)
    exact ⟨d, by simpa using h1, h2⟩
theorem DtAll.app {H : Hp} : ∀ {vs us : List V} {ds es : List D}, DtAll H vs ds → DtAll H us es → DtAll H (vs ++ us) (ds ++ es)
  | _, _, _, _, .nil, s => s
  | _, _, _, _, .cons a b, s => .cons a (DtAll.app b s)
theorem DtAll.map {α : Type} {H : Hp} {f : α → V} {g : α → D} (h : ∀ a, Dt H (f a) (g a)) : ∀ l : List α, DtAll H (l.map f) (l.map g)
  | [] => .nil
  | a :: l => .cons (h a) (DtAll.map h l)
theorem Dt.ty {K : PySem.W.Frag} {H : Hp} {v : V} {d : D} (h : Dt H v d) : TyX K H v (.type (kind d)) := by
  cases h with
  | non => exact .base .non
  | bl b => exact .base (.bl b)
  | int i => exact .base (.int i)
  | str z => exact .base (.str z)
  | lst h _ => exact .base (.lst h)
  | tup h _ => exact .base (.tup h)
  | dct h => exact .base (.dK h)
/-! ### a heap without one object -/
def Off (l : Addr) (H : Hp) : Hp := fun b => if b = l then none else H b
theorem Off.sub (l : Addr) (H : Hp) : Same (Off l H) H := fun b o e => by
  unfold Off at e
  by_cases h : b = l
  · rw [if_pos h] at e
    cases e
  · rw [if_neg h] at e
    exact e
theorem off_ne {l b : Addr} {H : Hp} (h : b ≠ l) : Off l H b = H b := if_neg h
theorem But.off {l : Addr} {H H' : Hp} (a : But l H H') : Same (Off l H) (Off l H') := fun b o e => by
  by_cases h : b = l
  · have z := (if_pos h).symm.trans e
    cases z
  · rw [off_ne h] at e ⊢
    exact a b o e h
theorem sOff {l : Addr} {H H' : Hp} (a : Same H H') : Same (Off l H) (Off l H') := (But.of a).off
theorem Dt.on {l : Addr} {H : Hp} {v : V} {d : D} (h : Dt (Off l H) v d) : Dt H v d := h.same (Off.sub l H)
/-! ### what a display makes -/
def Mk (l : Addr) (σ : L2.St) (t : TE) (H : Hp) (d : D) : Prop := ∀ H1, Same H H1 → ∀ Q : VK, (∀ v H2, Same H1 H2 → Dt (Off l H2) v d → Q v H2) → t σ H1 Q
def MkA (l : Addr) (σ : L2.St) (t : TA) (H : Hp) (ds : List D) : Prop := ∀ H1, Same H H1 → ∀ Q : List V → Hp → Prop, (∀ vs H2, Same H1 H2 → DtAll (Off l H2) vs ds → Q vs H2) → t σ H1 Q
section
variable {l : Addr} {σ : L2.St} {H : Hp}
theorem mk_c {v : V} {d : D} (h : Dt (Off l H) v d) : Mk l σ (tC v) H d := fun H1 s _ q => q v H1 (Same.refl _) (h.same (sOff s))
theorem mk_var {i : Nat} {v : V} {d : D} (e : σ[i]? = some (some v)) (h : Dt (Off l H) v d) : Mk l σ (tVar i) H d := fun H1 s _ q => ⟨v, e, q v H1 (Same.refl _) (h.same (sOff s))⟩
theorem mka_nil : MkA l σ tNil H [] := fun H1 _ _ q => q [] H1 (Same.refl _) .nil
theorem mka_cons {t : TE} {u : TA} {d : D} {ds : List D} (h1 : Mk l σ t H d) (h2 : MkA l σ u H ds) : MkA l σ (tCons t u) H (d :: ds) := fun H1 s Q q => by
  refine h1 H1 s _ fun v H2 s2 d2 => ?_
  refine h2 H2 (s.trans s2) _ fun vs H3 s3 d3 => ?_
  exact q (v :: vs) H3 (s2.trans s3) (.cons (d2.same (sOff s3)) d3)
theorem sz_lit {n : Nat} (h : n ≤ 1000) : n ≤ sizeLine := Nat.le_of_lt (small1000 h)
theorem mk_tup {u : TA} {ds : List D} (h : MkA l σ u H ds) {o : HO} (hl : H l = some o) (hz : Nat.ble ds.length 1000 = true := by rfl) : Mk l σ (tTup u) H (.tup ds) := fun H1 s Q q => by
  refine h H1 s _ fun vs H2 s2 d2 => ?_
  refine ⟨sz_lit (by rw [d2.length]; exact Nat.le_of_ble_eq_true hz), fun p hp => ?_⟩
  have ne : p ≠ l := fun e => by
    subst e
    rw [s2 _ _ (s _ _ hl)] at hp
    cases hp
  exact q (.ref p) _ (s2.trans (Same.upd hp)) (.tup (by rw [off_ne ne]; exact upd_same) (d2.same (sOff (Same.upd hp))))
theorem mk_lst {u : TA} {ds : List D} (h : MkA l σ u H ds) {o : HO} (hl : H l = some o) (hz : Nat.ble ds.length 1000 = true := by rfl) : Mk l σ (tLst u) H (.lst ds) := fun H1 s Q q => by
  refine h H1 s _ fun vs H2 s2 d2 => ?_
  refine ⟨sz_lit (by rw [d2.length]; exact Nat.le_of_ble_eq_true hz), fun p hp => ?_⟩
  have ne : p ≠ l := fun e => by
    subst e
    rw [s2 _ _ (s _ _ hl)] at hp
    cases hp
  exact q (.ref p) _ (s2.trans (Same.upd hp)) (.lst (by rw [off_ne ne]; exact upd_same) (d2.same (sOff (Same.upd hp))))
theorem mk_dnew {o : HO} (hl : H l = some o) : Mk l σ tDNewK H .dct := fun H1 s Q q p hp => by
  have ne : p ≠ l := fun e => by
    subst e
    rw [s _ _ hl] at hp
    cases hp
  exact q (.ref p) _ (Same.upd hp) (.dct (by rw [off_ne ne]; exact upd_same))
theorem mk_neg {i : Int} : Mk l σ (tUn (rU fun i => .int (-i)) (tC (.int i))) H (.int (-i)) := fun H1 _ _ q => ⟨i, rfl, q _ H1 (Same.refl _) (.int _)⟩
/-- {k: v} -/
theorem mk_disp1 {o : HO} {k : Int} {v : V} (hl : H l = some o) : Mk l σ (tDisp [(tC (.int k), tC v)]) H .dct := fun H1 s Q q p hp => by
  have ne : p ≠ l := fun e => by
    subst e
    rw [s _ _ hl] at hp
    cases hp
  refine ⟨upd_same, [(.inl k, v)], rfl, (by show 1 ≤ 15; decide), ?_⟩
  rw [upd_upd]
  exact q (.ref p) _ (Same.upd hp) (.dct (by rw [off_ne ne]; exact upd_same))
theorem Mk.go {t : TE} {d : D} (h : Mk l σ t H d) {Q : VK} (q : ∀ v H2, Same H H2 → Dt (Off l H2) v d → Q v H2) : t σ H Q := h H (Same.refl H) Q q
/-- xs + [..] -/
theorem mk_cat {t u : TE} {ds es : List D} (h1 : Mk l σ t H (.lst ds)) (h2 : Mk l σ u H (.lst es)) {o : HO} (hl : H l = some o) (hz : Nat.ble (ds.length + es.length) 1000 = true := by rfl) : Mk l σ (tOp rCat t u) H (.lst (ds ++ es)) := fun H1 s Q q => by
  refine h1 H1 s _ fun v H2 s2 d2 => ?_
  refine h2 H2 (s.trans s2) _ fun v3 H3 s3 d3 => ?_
  cases d2 with
  | lst ha2 hall2 =>
    cases d3 with
    | lst ha3 hall3 =>
      have ha2' := s3 _ _ (Off.sub _ _ _ _ ha2)
      have ha3' := Off.sub _ _ _ _ ha3
      refine ⟨_, _, _, _, rfl, rfl, ha2', ha3', sz_lit (by rw [hall2.length, hall3.length]; exact Nat.le_of_ble_eq_true hz), fun p hp => ?_⟩
      have ne : p ≠ l := fun e => by
        subst e
        rw [s3 _ _ (s2 _ _ (s _ _ hl))] at hp
        cases hp
      exact q (.ref p) _ ((s2.trans s3).trans (Same.upd hp)) (.lst (by rw [off_ne ne]; exact upd_same) (((hall2.same (sOff s3)).app hall3).same (sOff (Same.upd hp))))
end
/-! ### sizes of data -/
abbrev Asc (z : Str) : Prop := ∀ c ∈ z.cps.toList, c < 128
mutual
def Ok : D → Prop
  | .int i => i.natAbs < 2 ^ 300
  | .str z => z.length ≤ 3000 ∧ Asc z
  | .lst ds => OkAll ds
  | .tup ds => OkAll ds
  | _ => True
def OkAll : List D → Prop
  | [] => True
  | d :: ds => Ok d ∧ OkAll ds
end
theorem OkAll.mem : ∀ {ds : List D} {d : D}, OkAll ds → d ∈ ds → Ok d
  | [], _, _, m => by simp at m
  | e :: r, d, h, m => by
    rcases List.mem_cons.mp m with rfl | m
    · exact h.1
    · exact OkAll.mem h.2 m
/-- places of a list -/
theorem at_lt {α : Type} {xs : List α} {r : Int} (h0 : 0 ≤ r) (h1 : r < xs.length) : ∃ v, atI xs r = some v ∧ v ∈ xs ∧ xs[r.toNat]? = some v := by
  obtain ⟨n, rfl⟩ := Int.eq_ofNat_of_zero_le h0
  have hn : n < xs.length := by omega
  exact ⟨xs[n], atI_nat (by simp [hn]), List.getElem_mem hn, by simp [hn]⟩
/-! ### the law's draws -/
def Src (H : Hp) (l : Addr) : Prop := ∃ n s : Int, H l = some (.lst [.int n, .int s]) ∧ 0 ≤ n ∧ 0 ≤ s ∧ s < 2147483647
theorem Src.same {H H' : Hp} {l : Addr} (h : Src H l) (s : Same H H') : Src H' l := by
  obtain ⟨n, z, e, r⟩ := h
  exact ⟨n, z, s _ _ e, r⟩
theorem Src.some {H : Hp} {l : Addr} (h : Src H l) : ∃ o, H l = Option.some o := by
  obtain ⟨n, z, e, r⟩ := h
  exact ⟨_, e⟩
theorem Src.ne {H : Hp} {l p : Addr} (h : Src H l) (hp : H p = none) : p ≠ l := fun e => by
  obtain ⟨o, ho⟩ := h.some
  rw [e, ho] at hp
  cases hp
theorem bit_lt (k : Bool) : -(2 ^ 64) < (if k = true then 1 else 0 : Int) ∧ (if k = true then 1 else 0 : Int) < 2 ^ 64 := by
  cases k <;> decide
theorem bit_ge (k : Bool) : 0 ≤ (if k = true then 1 else 0 : Int) := by
  cases k <;> decide
def spSource : Sp := fun vs H Q _ => ∃ (c k : Int), vs = [.int c, .int k] ∧ ∀ (l : Addr) (H' : Hp), H l = none → Same H H' → Src H' l → Q (.ref l) H'
def spDraw : Sp := fun vs H Q _ => ∃ (l : Addr) (m : Int), vs = [.ref l, .int m] ∧ Src H l ∧ 0 < m ∧ m.natAbs.log2 < 9000 ∧ ∀ (r : Int) (H' : Hp), 0 ≤ r → r < m → But l H H' → Src H' l → Q (.int r) H'
theorem log_small {m : Int} {n : Nat} (h0 : 0 < n) (h : m.natAbs < 2 ^ n) (hn : n ≤ 9000) : m.natAbs.log2 < 9000 := Nat.lt_of_lt_of_le (PySem.Flt.log2_lt_of h0 h) hn
end Dear

namespace Dear
open PySem PySem.Spec PyProof.Rows L2
/-! ### kinds of things -/
def isInt : D → Bool
  | .int _ => true
  | _ => false
def isBl : D → Bool
  | .bl _ => true
  | _ => false
def isStr : D → Bool
  | .str _ => true
  | _ => false
def isLst : D → Bool
  | .lst _ => true
  | _ => false
def isTup : D → Bool
  | .tup _ => true
  | _ => false
def isDct : D → Bool
  | .dct => true
  | _ => false
theorem kd_int : ∀ d : D, kitB (kind d) "int" = some (isInt d || isBl d)
  | .non => (by decide +kernel : kitB "NoneType" "int" = some false)
  | .bl _ => (by decide +kernel : kitB "bool" "int" = some true)
  | .int _ => (by decide +kernel : kitB "int" "int" = some true)
  | .str _ => (by decide +kernel : kitB "str" "int" = some false)
  | .lst _ => (by decide +kernel : kitB "list" "int" = some false)
  | .tup _ => (by decide +kernel : kitB "tuple" "int" = some false)
  | .dct => (by decide +kernel : kitB "dict" "int" = some false)
theorem kd_bool : ∀ d : D, kitB (kind d) "bool" = some (isBl d)
  | .non => (by decide +kernel : kitB "NoneType" "bool" = some false)
  | .bl _ => (by decide +kernel : kitB "bool" "bool" = some true)
  | .int _ => (by decide +kernel : kitB "int" "bool" = some false)
  | .str _ => (by decide +kernel : kitB "str" "bool" = some false)
  | .lst _ => (by decide +kernel : kitB "list" "bool" = some false)
  | .tup _ => (by decide +kernel : kitB "tuple" "bool" = some false)
  | .dct => (by decide +kernel : kitB "dict" "bool" = some false)
theorem kd_str : ∀ d : D, kitB (kind d) "str" = some (isStr d)
  | .non => (by decide +kernel : kitB "NoneType" "str" = some false)
  | .bl _ => (by decide +kernel : kitB "bool" "str" = some false)
  | .int _ => (by decide +kernel : kitB "int" "str" = some false)
  | .str _ => (by decide +kernel : kitB "str" "str" = some true)
  | .lst _ => (by decide +kernel : kitB "list" "str" = some false)
  | .tup _ => (by decide +kernel : kitB "tuple" "str" = some false)
  | .dct => (by decide +kernel : kitB "dict" "str" = some false)
theorem kd_list : ∀ d : D, kitB (kind d) "list" = some (isLst d)
  | .non => (by decide +kernel : kitB "NoneType" "list" = some false)
  | .bl _ => (by decide +kernel : kitB "bool" "list" = some false)
  | .int _ => (by decide +kernel : kitB "int" "list" = some false)
  | .str _ => (by decide +kernel : kitB "str" "list" = some false)
  | .lst _ => (by decide +kernel : kitB "list" "list" = some true)
  | .tup _ => (by decide +kernel : kitB "tuple" "list" = some false)
  | .dct => (by decide +kernel : kitB "dict" "list" = some false)
theorem kd_tuple : ∀ d : D, kitB (kind d) "tuple" = some (isTup d)
  | .non => (by decide +kernel : kitB "NoneType" "tuple" = some false)
  | .bl _ => (by decide +kernel : kitB "bool" "tuple" = some false)
  | .int _ => (by decide +kernel : kitB "int" "tuple" = some false)
  | .str _ => (by decide +kernel : kitB "str" "tuple" = some false)
  | .lst _ => (by decide +kernel : kitB "list" "tuple" = some false)
  | .tup _ => (by decide +kernel : kitB "tuple" "tuple" = some true)
  | .dct => (by decide +kernel : kitB "dict" "tuple" = some false)
theorem kd_dict : ∀ d : D, kitB (kind d) "dict" = some (isDct d)
  | .non => (by decide +kernel : kitB "NoneType" "dict" = some false)
  | .bl _ => (by decide +kernel : kitB "bool" "dict" = some false)
  | .int _ => (by decide +kernel : kitB "int" "dict" = some false)
  | .str _ => (by decide +kernel : kitB "str" "dict" = some false)
  | .lst _ => (by decide +kernel : kitB "list" "dict" = some false)
  | .tup _ => (by decide +kernel : kitB "tuple" "dict" = some false)
  | .dct => (by decide +kernel : kitB "dict" "dict" = some true)
/-! ### is_whole, divisor, lowest, is_fraction, is_name -/
def spWhole : Sp := fun vs H Q _ => ∃ (v : V) (d : D), vs = [v] ∧ Dt H v d ∧ Q (.bl (isInt d)) H
def spDivisor : Sp := fun vs H Q _ => ∃ (a b : Int), vs = [.int a, .int b] ∧ 0 ≤ a ∧ 0 ≤ b ∧ Q (.int (Int.gcd a b)) H
/-- in lowest terms -/
def lowT (t b : Int) : Int := t / (Int.gcd b t : Int)
def lowB (t b : Int) : Int := b / (Int.gcd b t : Int)
def spLowest : Sp := fun vs H Q _ => ∃ (t b : Int), vs = [.int t, .int b] ∧ 0 < b ∧ b.natAbs.log2 < 9000 ∧ ∀ (p : Addr) (H' : Hp), H p = none → Same H H' → H' p = some (.tup [.int (lowT t b), .int (lowB t b)]) → Q (.ref p) H'
def isFr : D → Bool
  | .tup [.int t, .int b] => decide (0 < b) && (Int.gcd b t == 1)
  | _ => false
theorem isFr_len : ∀ {ds : List D}, ds.length ≠ 2 → isFr (.tup ds) = false
  | [], _ => rfl
  | [d], _ => by cases d <;> rfl
  | [_, _], h => absurd rfl h
  | d :: e :: _ :: _, _ => by cases d <;> cases e <;> rfl
def spFr : Sp := fun vs H Q _ => ∃ (v : V) (d : D), vs = [v] ∧ Dt H v d ∧ Ok d ∧ ∀ H', Same H H' → Q (.bl (isFr d)) H'
def letters : Str := "abcdefghijklmnopqrstuvwxyz"
def isNm : D → Bool
  | .str z => decide (1 ≤ z.length ∧ z.length ≤ 8) && z.cps.toList.all fun c => decide (c ∈ letters.cps.toList)
  | _ => false
def spNm : Sp := fun vs H Q _ => ∃ (v : V) (d : D), vs = [v] ∧ Dt H v d ∧ Ok d ∧ ∀ H', Same H H' → Q (.bl (isNm d)) H'
theorem gcd_step {a b : Int} (h0 : 0 ≤ a) (h : 0 < b) : Int.gcd b (a % b) = Int.gcd a b := by
  obtain ⟨m, rfl⟩ := Int.eq_ofNat_of_zero_le h0
  obtain ⟨n, rfl⟩ := Int.eq_ofNat_of_zero_le (Int.le_of_lt h)
  show Nat.gcd n (((m : Int) % (n : Int)).natAbs) = Nat.gcd m n
  rw [← Int.natCast_emod, Int.natAbs_natCast, Nat.gcd_comm n, ← Nat.gcd_rec, Nat.gcd_comm]
theorem abs_if (t : Int) : (if t < 0 then -t else t) = (t.natAbs : Int) := by
  split <;> omega
theorem gcd_abs (b t : Int) : Int.gcd b (t.natAbs : Int) = Int.gcd b t := by
  show Nat.gcd b.natAbs ((t.natAbs : Int).natAbs) = Nat.gcd b.natAbs t.natAbs
  rw [Int.natAbs_natCast]
theorem gcd_pos {b : Int} (t : Int) (h : 0 < b) : 0 < (Int.gcd b t : Int) := by
  have h1 : 0 < Int.gcd b t := Nat.gcd_pos_of_pos_left _ (by omega)
  omega
theorem gcd_le {b : Int} (t : Int) (h : 0 < b) : (Int.gcd b t : Int) ≤ b := by
  have h1 : Int.gcd b t ≤ b.natAbs := Nat.le_of_dvd (by omega) (Nat.gcd_dvd_left _ _)
  omega
theorem gcd_log {b : Int} (t : Int) (h : 0 < b) (hl : b.natAbs.log2 < 9000) : ((Int.gcd b t : Nat) : Int).natAbs.log2 < 9000 := by
  have h1 := gcd_le t h
  have h2 : b.natAbs < 2 ^ 9000 := Nat.lt_of_lt_of_le Nat.lt_log2_self (Nat.pow_le_pow_right (by decide) hl)
  have h3 : ((Int.gcd b t : Nat) : Int).natAbs < 2 ^ 9000 := Nat.lt_of_le_of_lt (by omega) h2
  exact PySem.Flt.log2_lt_of (by decide) h3
/-- a fraction is in lowest terms just where it is what lowest makes of it -/
theorem low_eq {t b : Int} (h : 0 < b) : ((lowT t b == t) && (lowB t b == b)) = (Int.gcd b t == 1) := by
  have g0 := gcd_pos t h
  by_cases e : Int.gcd b t = 1
  · have e1 : lowT t b = t := by unfold lowT; rw [e]; exact Int.ediv_one t
    have e2 : lowB t b = b := by unfold lowB; rw [e]; exact Int.ediv_one b
    rw [e1, e2, e]
    simp
  · have e3 : lowB t b ≠ b := by
      unfold lowB
      have g2 : (Int.gcd b t : Int) ≠ 1 := by omega
      have := Int.ediv_lt_self_of_pos_of_ne_one h g2
      omega
    have e4 : (lowB t b == b) = false := by simpa using e3
    have e5 : (Int.gcd b t == 1) = false := by simpa using e
    rw [e4, e5, Bool.and_false]
/-! ### texts -/
theorem in_letters_asc {c : Nat} (h : c ∈ letters.cps.toList) : c < 128 := by
  have : ∀ c ∈ letters.cps.toList, c < 128 := by decide +kernel
  exact this c h
end Dear

namespace Dear
open PySem PySem.Spec PyProof.Rows L2
/-! ### texts and lists of texts -/
theorem join_tl (ys : List Str) : (Txt.join "" ys).cps.toList = (ys.map fun y => y.cps.toList).flatten := by
  rw [TL.join_eq]
  have e := TL.tl_join ("" : Str) ys
  have e0 : TL.tl ("" : Str) = [] := by decide +kernel
  rw [e0] at e
  have g : ∀ l : List (List Nat), TL.joinL [] l = l.flatten := by
    intro l
    induction l with
    | nil => rfl
    | cons a r ih =>
      cases r with
      | nil => simp [TL.joinL]
      | cons b r =>
        rw [List.flatten_cons, ← ih]
        simp [TL.joinL]
  rw [g] at e
  exact e
/-- texts of one sign each -/
def Ones (ys : List Str) : Prop := ∀ y ∈ ys, y.length = 1 ∧ Asc y
theorem ones_join {ys : List Str} (h : Ones ys) : (Txt.join "" ys).length = ys.length ∧ Asc (Txt.join "" ys) := by
  constructor
  · rw [TL.len_tl, TL.tl, join_tl]
    induction ys with
    | nil => rfl
    | cons a r ih =>
      rw [List.map_cons, List.flatten_cons, List.length_append, ih fun y hy => h y (List.mem_cons_of_mem _ hy), List.length_cons]
      have h1 := (h a List.mem_cons_self).1
      rw [TL.len_tl] at h1
      have h2 : a.cps.toList.length = 1 := h1
      show a.cps.toList.length + r.length = r.length + 1
      omega
  · intro c hc
    rw [join_tl] at hc
    obtain ⟨l, hl, hc⟩ := List.mem_flatten.mp hc
    obtain ⟨y, hy, rfl⟩ := List.mem_map.mp hl
    exact (h y hy).2 c hc
theorem ones_size {ys : List Str} (h : Ones ys) (hl : ys.length ≤ 1000) : (ys.map (·.length)).sum + ys.length * ("" : Str).length ≤ 16777216 := by
  have e : (ys.map (·.length)).sum = ys.length := by
    clear hl
    induction ys with
    | nil => rfl
    | cons a r ih =>
      rw [List.map_cons, List.sum_cons, ih fun y hy => h y (List.mem_cons_of_mem _ hy), (h a List.mem_cons_self).1, List.length_cons]
      omega
  have e0 : ("" : Str).length = 0 := by decide +kernel
  rw [e, e0]
  omega
theorem dp_strs {K : PySem.W.Frag} {H : Hp} : ∀ ys : List Str, DpAll K H (ys.map V.str) (ys.map PyData.str)
  | [] => .nil
  | y :: ys => .cons (.str y) (dp_strs ys)
theorem strOk_asc {z : Str} (h : Asc z) : PyData.strOk z = true := by
  unfold PyData.strOk
  rw [Array.all_eq_true']
  intro c hc
  have := h c (by simpa using hc)
  simp
  omega
theorem depth_strs : ∀ ys : List Str, PyData.depthAll (ys.map PyData.str) = 0
  | [] => rfl
  | y :: ys => by
    rw [List.map_cons]
    show max (PyData.depth (.str y)) (PyData.depthAll (ys.map PyData.str)) = 0
    rw [depth_strs ys]
    rfl
theorem lay_strs : ∀ {ys : List Str}, (∀ y ∈ ys, Asc y) → PyData.canLayAll0 (ys.map PyData.str) = true
  | [], _ => rfl
  | y :: ys, h => by
    rw [List.map_cons]
    show (PyData.canLay0 (.str y) && PyData.canLayAll0 (ys.map PyData.str)) = true
    rw [lay_strs fun z hz => h z (List.mem_cons_of_mem _ hz), Bool.and_true]
    exact strOk_asc (h y List.mem_cons_self)
theorem shaped_strs {ys : List Str} (h : ∀ y ∈ ys, Asc y) : SeqAt.shaped (.list (ys.map PyData.str)) = true := by
  show (PyData.canLayAll0 (ys.map PyData.str) && decide (PyData.depthAll (ys.map PyData.str) + 1 ≤ 64)) = true
  rw [lay_strs h, depth_strs]
  rfl
theorem shaped_nil : SeqAt.shaped (.list []) = true := by decide +kernel
theorem eqv_nil : ∀ ds : List PyData, PyData.eqv (.list ds) (.list []) = ds.isEmpty
  | [] => by simp [PyData.eqv, PyData.eqvAll]
  | _ :: _ => by simp [PyData.eqv, PyData.eqvAll]
theorem all_empty {α β : Type} (l : List α) (p : α → Bool) (f : α → β) : l.all p = ((l.filter fun c => !p c).map f).isEmpty := by
  induction l with
  | nil => rfl
  | cons a r ih =>
    rw [List.all_cons, ih, List.filter_cons]
    cases p a <;> simp
theorem asc_one {c : Nat} (h : c < 128) : Asc ⟨#[c]⟩ := fun x hx => by
  have : x = c := by simpa using hx
  omega
theorem ixN_lt {n : Nat} {r : Int} (h0 : 0 ≤ r) (h1 : r < n) : ixN n r = some r.toNat := by
  unfold ixN
  rw [if_pos h0, if_pos h1]
theorem off_some {l p : Addr} {H : Hp} {o : HO} (h : Off l H p = some o) : p ≠ l ∧ H p = some o := by
  have ne : p ≠ l := fun e => by
    have z := (if_pos e).symm.trans h
    cases z
  rw [off_ne ne] at h
  exact ⟨ne, h⟩
theorem mem_cut {xs : List V} {lo hi : Option Int} {v : V} (h : v ∈ cutV xs lo hi) : v ∈ xs := List.mem_of_mem_drop (List.mem_of_mem_take h)
theorem get_ints {ns : List Int} {xs : List V} (h : ∀ v ∈ xs, v ∈ ns.map V.int) {i : Nat} {v : V} (e : xs[i]? = some v) : ∃ z, v = .int z ∧ z ∈ ns := by
  have := h v (List.mem_of_getElem? e)
  obtain ⟨z, hz, rfl⟩ := List.mem_map.mp this
  exact ⟨z, rfl, hz⟩
/-- one of a list that was made -/
theorem pick {l : Addr} {H H1 : Hp} {p : Addr} {ds : List D} (h : Dt (Off l H) (.ref p) (.lst ds)) (ok : OkAll ds) (B : But l H H1) {r : Int} (r0 : 0 ≤ r) (r1 : r < ds.length) :
    ∃ (xs : List V) (v : V) (d : D), H1 p = some (.lst xs) ∧ atI xs r = some v ∧ Dt (Off l H1) v d ∧ Ok d ∧ d ∈ ds := by
  cases h with
  | lst ha hall =>
    rename_i xs
    obtain ⟨ne, hp⟩ := off_some ha
    obtain ⟨v, hv, _, hr⟩ := at_lt (xs := xs) r0 (by rw [hall.length]; exact r1)
    obtain ⟨d, hd, h⟩ := hall.get hr
    have hm := List.mem_of_getElem? hd
    exact ⟨xs, v, d, B _ _ hp ne, hv, h.same B.off, ok.mem hm, hm⟩
theorem But.same0 {l : Addr} {H H1 H2 : Hp} (s : Same H H1) (h : H l = none) (B : But l H1 H2) : Same H H2 := fun c o e => B c o (s c o e) (ne_of_none e h)
theorem log_le {m : Int} (n : Nat) (h : m.natAbs ≤ n) (hn : n < 2 ^ 40 := by decide) : m.natAbs.log2 < 9000 := log_small (n := 40) (by decide) (Nat.lt_of_le_of_lt h hn) (by decide)
end Dear

namespace Dear
open PySem PySem.Spec PyProof.Rows L2
/-! ### list(text), tuple(text) -/
def sgnsV (z : Str) : List V := z.cps.toList.map fun c => V.str ⟨#[c]⟩
theorem valsAt : ∀ {xs : List V} {us : List Value}, xs.length = us.length → (∀ (j : Nat) (x : V) (u : Value), xs[j]? = some x → us[j]? = some u → RelV x u) → Vals xs us
  | [], [], _, _ => .nil
  | [], _ :: _, h, _ => by simp at h
  | _ :: _, [], h, _ => by simp at h
  | x :: xs, u :: us, h, f => .cons (f 0 x u rfl rfl) (valsAt (by simpa using h) fun j y w h1 h2 => f (j + 1) y w (by simpa using h1) (by simpa using h2))
theorem vals_signs {z : Str} {acc : Array Value} (h : ItemsOf (SignAt z) acc z.cps.size) : Vals (sgnsV z) acc.toList := by
  have el : acc.toList.length = z.cps.size := by rw [Array.length_toList]; exact h.1
  refine valsAt (by unfold sgnsV; rw [List.length_map, el, Array.length_toList]) fun j x u h1 h2 => ?_
  obtain ⟨c, t, e1, e2⟩ := h.2 j u (by rw [← h2, Array.getElem?_toList])
  unfold sgnsV at h1
  rw [List.getElem?_map, Array.getElem?_toList, e1] at h1
  cases h1
  exact ⟨t, e2⟩
section
variable {X : Cx}
def rListTx : List V → Hp → VK → Prop := fun xs H Q => ∃ z, xs = [.str z] ∧ z.length ≤ 1000 ∧ ∀ l, H l = none → Q (.ref l) (upd H l (.lst (sgnsV z)))
def rTupTx : List V → Hp → VK → Prop := fun xs H Q => ∃ z, xs = [.str z] ∧ z.length ≤ 1000 ∧ ∀ l, H l = none → Q (.ref l) (upd H l (.tup (sgnsV z)))
theorem call_list_tx (hc : X.calm = true) : CallR X (.type "list") rListTx := by
  intro pins s σ H xs us Q I r h
  obtain ⟨z, e, hz, q⟩ := h
  subst e
  obtain ⟨u, eu, t, rfl⟩ := vals1 r
  subst eu
  have hz' : z.cps.size ≤ sizeLine := sz_lit hz
  refine call_list_str (hn := hz') (I.ok.hd hc) z t fun h' tk acc c' hk e' hi => ?_
  refine ⟨.ref s.heap.objs.size, upd H s.heap.objs.size (.lst (sgnsV z)), I.laid hk (Nat.le_refl _) (show ObjOk X.prog X.w _ _ _ (.lst (sgnsV z)) from ⟨?_, acc.toList, c', vals_signs hi, ?_⟩), rfl, q _ (I.hok.fresh (Nat.le_refl _))⟩
  · unfold sgnsV
    rw [List.length_map, Array.length_toList]
    exact hz'
  · rw [Array.toArray_toList]; exact e'
theorem call_tuple_tx (hc : X.calm = true) : CallR X (.type "tuple") rTupTx := by
  intro pins s σ H xs us Q I r h
  obtain ⟨z, e, hz, q⟩ := h
  subst e
  obtain ⟨u, eu, t, rfl⟩ := vals1 r
  subst eu
  have hz' : z.cps.size ≤ sizeLine := sz_lit hz
  refine call_tuple_str (hsz := hz') (I.ok.hd hc) z t fun h' tk acc hk hi => ?_
  have I2 : Inv X pins σ H { s with heap := h', toks := tk } := I.kept hk
  refine ⟨.ref h'.objs.size, upd H h'.objs.size (.tup (sgnsV z)), I2.laid (t' := tk) (fun c o e => Heap.get?_push_of_some _ e) (Nat.le_refl _) (show ObjOk X.prog X.w _ _ _ (.tup (sgnsV z)) from ⟨?_, acc.toList, vals_signs hi, ?_⟩), rfl, q _ (I2.hok.fresh (Nat.le_refl _))⟩
  · unfold sgnsV
    rw [List.length_map, Array.length_toList]
    exact hz'
  · rw [Array.toArray_toList]; exact IsTup.new _ _
end
section
variable {l : Addr} {σ : L2.St} {H : Hp}
theorem dt_signs {H : Hp} : ∀ cs : List Nat, DtAll H (cs.map fun c => V.str ⟨#[c]⟩) (cs.map fun c => D.str ⟨#[c]⟩)
  | [] => .nil
  | c :: cs => .cons (.str _) (dt_signs cs)
theorem mk_ltx {i : Nat} {z : Str} {o : HO} (e : σ[i]? = some (some (.str z))) (hz : z.length ≤ 1000) (hl : H l = some o) : Mk l σ (tCB rListTx (tCons (tVar i) tNil)) H (.lst (z.cps.toList.map fun c => D.str ⟨#[c]⟩)) := fun H1 s Q q => by
  refine ⟨_, e, z, rfl, hz, fun p hp => ?_⟩
  have ne : p ≠ l := fun e => by
    subst e
    rw [s _ _ hl] at hp
    cases hp
  exact q (.ref p) _ (Same.upd hp) (.lst (by rw [off_ne ne]; exact upd_same) (dt_signs _))
theorem mk_ttx {i : Nat} {z : Str} {o : HO} (e : σ[i]? = some (some (.str z))) (hz : z.length ≤ 1000) (hl : H l = some o) : Mk l σ (tCB rTupTx (tCons (tVar i) tNil)) H (.tup (z.cps.toList.map fun c => D.str ⟨#[c]⟩)) := fun H1 s Q q => by
  refine ⟨_, e, z, rfl, hz, fun p hp => ?_⟩
  have ne : p ≠ l := fun e => by
    subst e
    rw [s _ _ hl] at hp
    cases hp
  exact q (.ref p) _ (Same.upd hp) (.tup (by rw [off_ne ne]; exact upd_same) (dt_signs _))
end
end Dear

namespace Dear
open PySem PySem.Spec PyProof.Rows L2
/-- law's: a list of at most 63 ints is handed in, True comes out -/
def spLaw (K : PySem.W.Frag) : Sp := fun vs H Q _ => ∃ (a : Addr) (ns : List Int), vs = [.ref a] ∧ SqL K H a (ns.map V.int) ∧ ns.length ≤ 63 ∧ ∀ H', Q (.bl true) H'
end Dear

namespace Dear
open PySem PySem.Spec PyProof.Rows L2
/-! ### slices of texts -/
def sgn (c : Nat) : Str := ⟨#[c]⟩
theorem str_one {z : Str} (h : z.length = 1) : ∃ c, z = ⟨#[c]⟩ := by
  obtain ⟨⟨l⟩⟩ := z
  match l, h with
  | [c], _ => exact ⟨c, rfl⟩
theorem inV_strs (z : Str) : ∀ ys : List Str, inV (.str z) (ys.map V.str) = decide (z ∈ ys)
  | [] => by simp [inV]
  | y :: ys => by
    have ih := inV_strs z ys
    unfold inV at ih ⊢
    rw [List.map_cons, List.any_cons, ih]
    by_cases e : y = z
    · subst e
      simp [eqV]
    · have e' : ¬ z = y := fun q => e q.symm
      have h1 : eqV (.str y) (.str z) = false := by simp [eqV, e]
      simp [h1, e']
theorem flat_str (ys : List Str) : (ys.map V.str).all flatV = true := by
  rw [List.all_eq_true]
  intro x hx
  obtain ⟨y, _, rfl⟩ := List.mem_map.mp hx
  rfl
theorem sgn_inj {a b : Nat} (h : sgn a = sgn b) : a = b := by
  have := congrArg (fun z : Str => z.cps.toList) h
  simpa [sgn] using this
/-- the text of these code points -/
def txt (l : List Nat) : Str := ⟨l.toArray⟩
theorem txt_list (l : List Nat) : (txt l).cps.toList = l := List.toList_toArray ..
theorem txt_length (l : List Nat) : (txt l).length = l.length := List.size_toArray ..
theorem txt_of (z : Str) : z = txt z.cps.toList := by
  cases z
  rfl
theorem str_len (a b : Str) : (a ++ b).length = a.length + b.length := by
  show (a.cps ++ b.cps).size = _
  exact Array.size_append
theorem txt_inj {a b : List Nat} (h : txt a = txt b) : a = b := by
  have := congrArg (fun z : Str => z.cps.toList) h
  simpa [txt_list] using this
theorem txt_app (a b : List Nat) : txt a ++ txt b = txt (a ++ b) := by
  show (⟨a.toArray ++ b.toArray⟩ : Str) = ⟨(a ++ b).toArray⟩
  simp
theorem cut_txt (l : List Nat) (lo hi : Option Int) : cutS (txt l) lo hi = txt ((l.drop (HT.sIx l.length 0 lo)).take (HT.sIx l.length l.length hi - HT.sIx l.length 0 lo)) := by
  unfold cutS
  rw [txt_list, txt_length]
  rfl
theorem cut_pre (l : List Nat) (j : Nat) : cutS (txt l) none (some (j : Int)) = txt (l.take j) := by
  rw [cut_txt, HT.sIx_none, HT.sIx_nat, List.drop_zero, Nat.sub_zero]
  congr 1
  by_cases h : j ≤ l.length
  · rw [Nat.min_eq_left h]
  · rw [Nat.min_eq_right (by omega), List.take_length, List.take_of_length_le (by omega)]
theorem cut_from (l : List Nat) (j : Nat) : cutS (txt l) (some (j : Int)) none = txt (l.drop j) := by
  rw [cut_txt, HT.sIx_none, HT.sIx_nat]
  congr 1
  by_cases h : j ≤ l.length
  · rw [Nat.min_eq_left h, List.take_of_length_le (by rw [List.length_drop]; exact Nat.le_refl _)]
  · rw [Nat.min_eq_right (by omega), List.drop_length, List.drop_of_length_le (by omega), List.take_nil]
theorem cut_last0 : cutS (txt []) (some (-1)) none = "" := by decide +kernel
theorem cut_last (l : List Nat) (c : Nat) : cutS (txt (l ++ [c])) (some (-1)) none = txt [c] := by
  rw [cut_txt, HT.sIx_none]
  have e1 : HT.sIx (l ++ [c]).length 0 (some (-1)) = l.length := by
    show (if (-1 : Int) < 0 then (-1 + ((l ++ [c]).length : Int)).toNat else min (-1 : Int).toNat (l ++ [c]).length) = l.length
    rw [if_pos (by decide), List.length_append]
    show (-1 + ((l.length + 1 : Nat) : Int)).toNat = _
    omega
  rw [e1, List.drop_left, List.take_of_length_le]
  rw [List.length_append]
  show 1 ≤ l.length + 1 - l.length
  omega
theorem cut_init {l : List Nat} {e : Nat} : cutS (txt (l ++ [e])) none (some (-1)) = txt l := by
  have e1 : HT.sIx (l ++ [e]).length (l ++ [e]).length (some (-1)) = l.length := by
    show (if (-1 : Int) < 0 then (-1 + ((l ++ [e]).length : Int)).toNat else min (-1 : Int).toNat (l ++ [e]).length) = l.length
    rw [if_pos (by decide), List.length_append]
    show (-1 + ((l.length + 1 : Nat) : Int)).toNat = _
    omega
  rw [cut_txt, HT.sIx_none, e1, List.drop_zero, Nat.sub_zero, List.take_left]
theorem at_last {l : List Nat} {e : Nat} : atI (txt (l ++ [e])).cps.toList (-1) = some e := by
  rw [txt_list]
  unfold atI ixN
  rw [if_neg (by decide), if_pos (by rw [List.length_append]; show -((l.length + 1 : Nat) : Int) ≤ -1; omega)]
  have e1 : (-1 + ((l ++ [e]).length : Int)).toNat = l.length := by
    rw [List.length_append]
    show (-1 + ((l.length + 1 : Nat) : Int)).toNat = _
    omega
  rw [e1]
  show (l ++ [e])[l.length]? = some e
  rw [List.getElem?_append_right (Nat.le_refl _), Nat.sub_self]
  rfl
theorem sgn_txt (c : Nat) : sgn c = txt [c] := rfl
theorem txt_snoc (l : List Nat) (c : Nat) : txt l ++ sgn c = txt (l ++ [c]) := by
  show (⟨l.toArray ++ #[c]⟩ : Str) = ⟨(l ++ [c]).toArray⟩
  simp
/-- the sign ahead of the j-th one -/
def aheadOf (l : List Nat) (j : Nat) : Str := cutS (cutS (txt l) none (some (j : Int))) (some (-1)) none
theorem ahead_zero (l : List Nat) : aheadOf l 0 = "" := by
  unfold aheadOf
  rw [cut_pre, List.take_zero]
  exact cut_last0
theorem ahead_succ {l : List Nat} {j : Nat} {c : Nat} (h : l[j]? = some c) : aheadOf l (j + 1) = txt [c] := by
  unfold aheadOf
  rw [cut_pre, List.take_add_one, h, Option.toList_some, cut_last]
end Dear

namespace Dear
open PySem PySem.Spec PyProof.Rows L2
/-! ### data of tuples alone: they stay whatever lists are changed -/
mutual
def Pu : D → Prop
  | .lst _ => False
  | .dct => False
  | .tup ds => PuAll ds
  | _ => True
def PuAll : List D → Prop
  | [] => True
  | d :: ds => Pu d ∧ PuAll ds
end
def TP (H H' : Hp) : Prop := ∀ b xs, H b = some (.tup xs) → H' b = some (.tup xs)
theorem TP.refl (H : Hp) : TP H H := fun _ _ h => h
theorem TP.trans {H H1 H2 : Hp} (a : TP H H1) (b : TP H1 H2) : TP H H2 := fun c xs h => b c xs (a c xs h)
theorem TP.same {H H' : Hp} (s : Same H H') : TP H H' := fun b xs h => s b _ h
theorem TP.but {l : Addr} {H H' : Hp} (s : But l H H') {xs : List V} (hl : H l = some (.lst xs)) : TP H H' := fun b ys h => s b _ h (ne_of h hl (by intro z; cases z))
theorem TP.src {l : Addr} {H H' : Hp} (s : But l H H') (hl : Src H l) : TP H H' := by
  obtain ⟨n, z, e, _⟩ := hl
  exact TP.but s e
theorem TP.upd {H : Hp} {p : Addr} {xs : List V} {o : HO} (h : H p = some (.lst xs)) : TP H (L2.upd H p o) := fun b ys e => by
  rw [upd_ne (ne_of e h (by intro z; cases z))]
  exact e
mutual
theorem Dt.tp {H H' : Hp} (t : TP H H') : ∀ {v : V} {d : D}, Pu d → Dt H v d → Dt H' v d
  | _, _, _, .non => .non
  | _, _, _, .bl b => .bl b
  | _, _, _, .int i => .int i
  | _, _, _, .str z => .str z
  | _, _, p, .lst _ _ => p.elim
  | _, _, p, .tup h a => .tup (t _ _ h) (DtAll.tp t p a)
  | _, _, p, .dct _ => p.elim
theorem DtAll.tp {H H' : Hp} (t : TP H H') : ∀ {vs : List V} {ds : List D}, PuAll ds → DtAll H vs ds → DtAll H' vs ds
  | _, _, _, .nil => .nil
  | _, _, p, .cons a b => .cons (Dt.tp t p.1 a) (DtAll.tp t p.2 b)
end
theorem PuAll.app : ∀ {ds es : List D}, PuAll ds → PuAll es → PuAll (ds ++ es)
  | [], _, _, h => h
  | _ :: _, _, a, h => ⟨a.1, PuAll.app a.2 h⟩
theorem OkAll.app : ∀ {ds es : List D}, OkAll ds → OkAll es → OkAll (ds ++ es)
  | [], _, _, h => h
  | _ :: _, _, a, h => ⟨a.1, OkAll.app a.2 h⟩
theorem DtAll.strs {H : Hp} : ∀ {xs : List V} {pre : List Str}, DtAll H xs (pre.map D.str) → xs = pre.map V.str
  | _, [], .nil => rfl
  | _, _ :: _, .cons (.str z) t => by
    rw [DtAll.strs t]
    rfl
theorem DtAll.take {H : Hp} : ∀ {xs : List V} {ds : List D} (n : Nat), DtAll H xs ds → DtAll H (xs.take n) (ds.take n)
  | _, _, 0, _ => .nil
  | _, _, _ + 1, .nil => .nil
  | _, _, n + 1, .cons a b => .cons a (DtAll.take n b)
theorem drop_get {α : Type} {l : List α} {i : Nat} {x : α} (h : l[i]? = some x) : l.drop i = x :: l.drop (i + 1) := by
  obtain ⟨h1, h2⟩ := List.getElem?_eq_some_iff.mp h
  rw [List.drop_eq_getElem_cons h1, h2]
theorem take_more {α : Type} {l : List α} {i : Nat} {x : α} (h : l[i]? = some x) : l.take (i + 1) = l.take i ++ [x] := by
  rw [List.take_succ, h]
  rfl
end Dear

namespace Dear
open PySem PySem.Spec PyProof.Rows L2
/-! ### what a tongue is, of any thing -/
def topPos : D → Bool
  | .tup (.int t :: _) => decide (0 < t)
  | _ => false
def isPrice (d : D) : Bool := isFr d && topPos d
def isLetter : D → Bool
  | .str z => z.length == 1 && z.cps.toList.all fun c => decide (c ∈ letters.cps.toList)
  | _ => false
def isNon : D → Bool
  | .non => true
  | _ => false
def isSign : D → Bool
  | .tup [s, p, l] => isLetter s && isPrice p && (isNon l || isPrice l)
  | _ => false
def headS : D → Str
  | .tup (.str z :: _) => z
  | _ => Str.empty
def areSigns : D → Bool
  | .lst ds => decide (2 ≤ ds.length ∧ ds.length ≤ 6) && ds.all isSign && (dd (ds.map headS)).length == ds.length
  | _ => false
def unl (n : Int) (L : List Str) : List Str → List D → Bool
  | _, [] => true
  | pre, .str z :: r => decide ((z.length : Int) = n) && !decide (z ∈ pre) && (z.cps.toList.all fun c => decide (sgn c ∈ L)) && unl n L (pre ++ [z]) r
  | _, _ :: _ => false
def unlike (n : Int) (L : List Str) : D → Bool
  | .lst ds => unl n L [] ds
  | _ => false
def heads : D → List Str
  | .lst ds => ds.map headS
  | _ => []
def isLong : D → Bool
  | .int i => decide (1 ≤ i ∧ i ≤ 8)
  | _ => false
def lookOk : D → Bool
  | .tup [s, f, p, l] => areSigns s && unlike 1 (heads s) f && unlike 2 (heads s) p && isLong l
  | _ => false
def spPrice : Sp := fun vs H Q _ => ∃ (v : V) (d : D), vs = [v] ∧ Dt H v d ∧ Ok d ∧ ∀ H', Same H H' → Q (.bl (isPrice d)) H'
def spLetter : Sp := fun vs H Q _ => ∃ (v : V) (d : D), vs = [v] ∧ Dt H v d ∧ Ok d ∧ Q (.bl (isLetter d)) H
def spSign : Sp := fun vs H Q _ => ∃ (v : V) (d : D), vs = [v] ∧ Dt H v d ∧ Ok d ∧ ∀ H', Same H H' → Q (.bl (isSign d)) H'
def spSigns : Sp := fun vs H Q _ => ∃ (v : V) (d : D), vs = [v] ∧ Dt H v d ∧ Ok d ∧ ∀ H', Same H H' → Q (.bl (areSigns d)) H'
def spUnlike : Sp := fun vs H Q _ => ∃ (v : V) (d : D) (n : Int) (b : Addr) (L : List Str), vs = [v, .int n, .ref b] ∧ Dt H v d ∧ Ok d ∧ H b = some (.lst (L.map V.str)) ∧ ∀ H', Same H H' → Q (.bl (unlike n L d)) H'
/-- of a good one: None -/
def spLook : Sp := fun vs H Q _ => ∃ (v : V) (d : D), vs = [v] ∧ Dt H v d ∧ Ok d ∧ lookOk d = true ∧ ∀ H', Same H H' → Q .non H'
theorem fr_shape {d : D} (h : isFr d = true) : ∃ t b : Int, d = .tup [.int t, .int b] ∧ 0 < b := by
  match d, h with
  | .tup [.int t, .int b], h =>
    refine ⟨t, b, rfl, ?_⟩
    have h : (decide (0 < b) && (Int.gcd b t == 1)) = true := h
    simp only [Bool.and_eq_true, decide_eq_true_eq] at h
    exact h.1
end Dear

namespace Dear
open PySem PySem.Spec PyProof.Rows L2
/-! ### prices and signs -/
structure PrOk (t b : Int) : Prop where
  t0 : 0 < t
  b0 : 0 < b
  t1 : t ≤ 1000000000
  b1 : b ≤ 1000000000
  g : Int.gcd b t = 1
theorem PrOk.is {t b : Int} (h : PrOk t b) : isPrice (.tup [.int t, .int b]) = true := by
  show (decide (0 < b) && (Int.gcd b t == 1) && decide (0 < t)) = true
  rw [decide_eq_true h.t0, decide_eq_true h.b0, h.g]
  rfl
theorem pow300 {n : Nat} (h : n < 2 ^ 40) : n < 2 ^ 300 := Nat.lt_of_lt_of_le h (Nat.pow_le_pow_right (by decide) (by decide))
theorem PrOk.ok {t b : Int} (h : PrOk t b) : Ok (.tup [.int t, .int b]) := by
  obtain ⟨h1, h2, h3, h4, _⟩ := h
  exact ⟨pow300 (by omega), pow300 (by omega), trivial⟩
theorem low_pos {t b : Int} (ht : 0 < t) (hb : 0 < b) : 0 < lowT t b ∧ 0 < lowB t b ∧ lowT t b ≤ t ∧ lowB t b ≤ b ∧ Int.gcd (lowB t b) (lowT t b) = 1 := by
  obtain ⟨m, rfl⟩ := Int.eq_ofNat_of_zero_le (Int.le_of_lt ht)
  obtain ⟨n, rfl⟩ := Int.eq_ofNat_of_zero_le (Int.le_of_lt hb)
  have hm : 0 < m := by omega
  have hn : 0 < n := by omega
  have hg : 0 < Nat.gcd n m := Nat.gcd_pos_of_pos_left _ hn
  have e1 : lowT (m : Int) (n : Int) = ((m / Nat.gcd n m : Nat) : Int) := by
    show (m : Int) / ((Nat.gcd n m : Nat) : Int) = _
    exact (Int.natCast_ediv _ _).symm
  have e2 : lowB (m : Int) (n : Int) = ((n / Nat.gcd n m : Nat) : Int) := by
    show (n : Int) / ((Nat.gcd n m : Nat) : Int) = _
    exact (Int.natCast_ediv _ _).symm
  rw [e1, e2]
  have d1 : 0 < m / Nat.gcd n m := Nat.div_pos (Nat.le_of_dvd hm (Nat.gcd_dvd_right n m)) hg
  have d2 : 0 < n / Nat.gcd n m := Nat.div_pos (Nat.le_of_dvd hn (Nat.gcd_dvd_left n m)) hg
  have d3 : m / Nat.gcd n m ≤ m := Nat.div_le_self _ _
  have d4 : n / Nat.gcd n m ≤ n := Nat.div_le_self _ _
  refine ⟨by omega, by omega, by omega, by omega, ?_⟩
  show Nat.gcd (n / Nat.gcd n m) (m / Nat.gcd n m) = 1
  rw [Nat.gcd_div (Nat.gcd_dvd_left n m) (Nat.gcd_dvd_right n m)]
  exact Nat.div_self hg
theorem sgn_small (c : Nat) : (sgn c).length ≤ 3000 := (by decide : 1 ≤ 3000)
/-- a price, or none -/
def LastD : D → Prop
  | .non => True
  | .tup [.int t, .int b] => PrOk t b
  | _ => False
structure SgD (d : D) (c : Nat) : Prop where
  ex : ∃ (t b : Int) (l : D), d = .tup [.str (sgn c), .tup [.int t, .int b], l] ∧ PrOk t b ∧ LastD l
  let_ : c ∈ letters.cps.toList
theorem LastD.facts {l : D} (h : LastD l) : (isNon l || isPrice l) = true ∧ Ok l ∧ Pu l := by
  match l, h with
  | .non, _ => exact ⟨rfl, trivial, trivial⟩
  | .tup [.int t, .int b], h =>
    have h : PrOk t b := h
    exact ⟨by rw [h.is, Bool.or_true], h.ok, trivial, trivial, trivial⟩
theorem SgD.facts {d : D} {c : Nat} (h : SgD d c) : isSign d = true ∧ Ok d ∧ Pu d ∧ headS d = sgn c := by
  obtain ⟨⟨t, b, l, rfl, hp, hl⟩, hc⟩ := h
  obtain ⟨l1, l2, l3⟩ := hl.facts
  have hlt : isLetter (.str (sgn c)) = true := by
    show ((sgn c).length == 1 && _) = true
    have : ((sgn c).length == 1) = true := rfl
    rw [this, Bool.true_and]
    simpa [sgn] using hc
  refine ⟨?_, ⟨⟨sgn_small c, asc_one (in_letters_asc hc)⟩, hp.ok, l2, trivial⟩, ⟨trivial, ⟨trivial, trivial, trivial⟩, l3, trivial⟩, rfl⟩
  show (isLetter (.str (sgn c)) && isPrice (.tup [.int t, .int b]) && (isNon l || isPrice l)) = true
  rw [hlt, hp.is, l1]
  rfl
/-- signs with their letters -/
inductive SgAll : List D → List Nat → Prop
  | nil : SgAll [] []
  | cons {d : D} {c : Nat} {ds : List D} {cs : List Nat} : SgD d c → SgAll ds cs → SgAll (d :: ds) (c :: cs)
theorem SgAll.app : ∀ {ds : List D} {cs : List Nat} {d : D} {c : Nat}, SgAll ds cs → SgD d c → SgAll (ds ++ [d]) (cs ++ [c])
  | _, _, _, _, .nil, h => .cons h .nil
  | _, _, _, _, .cons a b, h => .cons a (SgAll.app b h)
theorem SgAll.facts : ∀ {ds : List D} {cs : List Nat}, SgAll ds cs → ds.all isSign = true ∧ OkAll ds ∧ PuAll ds ∧ ds.map headS = cs.map sgn ∧ ds.length = cs.length ∧ ∀ c ∈ cs, c ∈ letters.cps.toList
  | _, _, .nil => ⟨rfl, trivial, trivial, rfl, rfl, fun _ h => nomatch h⟩
  | _, _, .cons a b => by
    obtain ⟨h1, h2, h3, h4⟩ := a.facts
    obtain ⟨g1, g2, g3, g4, g5, g6⟩ := SgAll.facts b
    refine ⟨by rw [List.all_cons, h1, g1]; rfl, ⟨h2, g2⟩, ⟨h3, g3⟩, by rw [List.map_cons, List.map_cons, h4, g4], by rw [List.length_cons, List.length_cons, g5], fun c hc => ?_⟩
    rcases List.mem_cons.mp hc with rfl | hc
    · exact a.let_
    · exact g6 c hc
theorem SgAll.get : ∀ {ds : List D} {cs : List Nat} {i : Nat} {d : D}, SgAll ds cs → ds[i]? = some d → ∃ c, cs[i]? = some c ∧ SgD d c
  | _, _, _, _, .nil, e => by simp at e
  | _, _, 0, _, .cons a _, e => by
    simp at e
    subst e
    exact ⟨_, rfl, a⟩
  | _, _, i + 1, d, .cons _ b, e => by
    obtain ⟨c, h1, h2⟩ := SgAll.get (i := i) (d := d) b (by simpa using e)
    exact ⟨c, by simpa using h1, h2⟩
theorem nodup_sgn {cs : List Nat} (h : cs.Nodup) : (cs.map sgn).Nodup := by
  rw [List.nodup_iff_pairwise_ne] at *
  rw [List.pairwise_map]
  exact h.imp fun hne e => hne (sgn_inj e)
/-- letters by start and step -/
def codeAt (s st : Int) (j : Nat) : Nat := letters.cps.toList.getD ((s + st * (j : Int)) % 26).toNat 0
theorem let_nodup : letters.cps.toList.Nodup := by decide +kernel
theorem let_len : letters.cps.toList.length = 26 := by decide +kernel
theorem code_mem (s st : Int) (j : Nat) : letters.cps.toList[((s + st * (j : Int)) % 26).toNat]? = some (codeAt s st j) := by
  have h0 : 0 ≤ (s + st * (j : Int)) % 26 := Int.emod_nonneg _ (by decide)
  have h1 : (s + st * (j : Int)) % 26 < 26 := Int.emod_lt_of_pos _ (by decide)
  have h2 : ((s + st * (j : Int)) % 26).toNat < letters.cps.toList.length := by rw [let_len]; omega
  unfold codeAt
  rw [List.getD_eq_getElem?_getD, List.getElem?_eq_getElem h2]
  rfl
theorem code_inj {s st : Int} (hst : st = 1 ∨ st = 3 ∨ st = 7 ∨ st = 25) {i j : Nat} (hi : i < 6) (hj : j < 6) (h : codeAt s st i = codeAt s st j) : i = j := by
  have a := code_mem s st i
  have b := code_mem s st j
  rw [← h] at b
  have e := nd_ix let_nodup a b
  have i0 : 0 ≤ (s + st * (i : Int)) % 26 := Int.emod_nonneg _ (by decide)
  have j0 : 0 ≤ (s + st * (j : Int)) % 26 := Int.emod_nonneg _ (by decide)
  rcases hst with rfl | rfl | rfl | rfl <;> omega
theorem codes_nodup {s st : Int} (hst : st = 1 ∨ st = 3 ∨ st = 7 ∨ st = 25) {n : Nat} (hn : n ≤ 6) : ((List.range n).map (codeAt s st)).Nodup := by
  rw [List.nodup_iff_pairwise_ne, List.pairwise_map]
  refine List.Pairwise.imp_of_mem ?_ (List.nodup_iff_pairwise_ne.mp List.nodup_range)
  intro a b ha hb hne e
  exact hne (code_inj hst (by have := List.mem_range.mp ha; omega) (by have := List.mem_range.mp hb; omega) e)
/-! ### firsts and pairs -/
theorem unl_ok {n : Int} {L : List Str} : ∀ {zs pre : List Str}, (∀ z ∈ zs, (z.length : Int) = n ∧ ∀ c ∈ z.cps.toList, sgn c ∈ L) → (pre ++ zs).Nodup → unl n L pre (zs.map D.str) = true
  | [], _, _, _ => rfl
  | z :: zs, pre, h, nd => by
    obtain ⟨h1, h2⟩ := h z List.mem_cons_self
    have h3 : ¬ z ∈ pre := fun q => (List.nodup_append.mp nd).2.2 z q z List.mem_cons_self rfl
    show (decide ((z.length : Int) = n) && !decide (z ∈ pre) && (z.cps.toList.all fun c => decide (sgn c ∈ L)) && unl n L (pre ++ [z]) (zs.map D.str)) = true
    have h4 : (z.cps.toList.all fun c => decide (sgn c ∈ L)) = true := List.all_eq_true.mpr fun c hc => decide_eq_true (h2 c hc)
    rw [decide_eq_true h1, decide_eq_false h3, h4, unl_ok (fun y hy => h y (List.mem_cons_of_mem _ hy)) (by rw [List.append_assoc]; exact nd)]
    rfl
theorem tl_sgn2 (a b : Nat) : (sgn a ++ sgn b).cps.toList = [a, b] := TL.tl_append (sgn a) (sgn b)
theorem sgn2_inj {a b c d : Nat} (h : sgn a ++ sgn b = sgn c ++ sgn d) : a = c ∧ b = d := by
  have := congrArg (fun z : Str => z.cps.toList) h
  simp only [tl_sgn2] at this
  injection this with h1 h2
  injection h2 with h2 _
  exact ⟨h1, h2⟩
/-- pairs out of cs, of those that begin with one of bs -/
structure PairsOf (bs cs : List Nat) (zs : List Str) : Prop where
  nd : zs.Nodup
  of : ∀ z ∈ zs, ∃ a ∈ bs, ∃ b ∈ cs, z = sgn a ++ sgn b
theorem pairs_len {a b : Nat} : (sgn a ++ sgn b).length = 2 := by
  rw [TL.len_tl]
  show (sgn a ++ sgn b).cps.toList.length = 2
  rw [tl_sgn2]
  rfl
theorem PairsOf.more {bs cs : List Nat} {zs ws : List Str} {a : Nat} (h : PairsOf bs cs zs) (ha : ¬ a ∈ bs) (hw : ws.Nodup) (ho : ∀ z ∈ ws, ∃ b ∈ cs, z = sgn a ++ sgn b) : PairsOf (bs ++ [a]) cs (zs ++ ws) where
  nd := by
    rw [List.nodup_append]
    refine ⟨h.nd, hw, fun x hx y hy e => ?_⟩
    obtain ⟨a1, h1, b1, _, rfl⟩ := h.of x hx
    obtain ⟨b2, _, rfl⟩ := ho y hy
    have := (sgn2_inj e).1
    subst this
    exact ha h1
  of := fun z hz => by
    rcases List.mem_append.mp hz with hz | hz
    · obtain ⟨a1, h1, b1, h2, rfl⟩ := h.of z hz
      exact ⟨a1, List.mem_append_left _ h1, b1, h2, rfl⟩
    · obtain ⟨b2, h2, rfl⟩ := ho z hz
      exact ⟨a, List.mem_append_right _ List.mem_cons_self, b2, h2, rfl⟩
theorem pairs_unlike {cs : List Nat} {zs : List Str} (h : PairsOf cs cs zs) : unlike 2 (cs.map sgn) (.lst (zs.map D.str)) = true := by
  refine unl_ok (fun z hz => ?_) (by simpa using h.nd)
  obtain ⟨a, ha, b, hb, rfl⟩ := h.of z hz
  refine ⟨by rw [pairs_len]; rfl, fun c hc => ?_⟩
  rw [tl_sgn2] at hc
  simp only [List.mem_cons, List.not_mem_nil, or_false] at hc
  rcases hc with rfl | rfl
  · exact List.mem_map_of_mem ha
  · exact List.mem_map_of_mem hb
theorem firsts_unlike {cs fs : List Nat} (nd : fs.Nodup) (h : ∀ c ∈ fs, c ∈ cs) : unlike 1 (cs.map sgn) (.lst ((fs.map sgn).map D.str)) = true := by
  refine unl_ok (fun z hz => ?_) (by simpa using nodup_sgn nd)
  obtain ⟨c, hc, rfl⟩ := List.mem_map.mp hz
  refine ⟨rfl, fun x hx => ?_⟩
  have : x = c := by simpa [sgn] using hx
  subst this
  exact List.mem_map_of_mem (h _ hc)
theorem signs_ok {ds : List D} {cs : List Nat} (h : SgAll ds cs) (nd : cs.Nodup) (l2 : 2 ≤ cs.length) (l6 : cs.length ≤ 6) : areSigns (.lst ds) = true := by
  obtain ⟨h1, h2, h3, h4, h5, h6⟩ := h.facts
  show (decide (2 ≤ ds.length ∧ ds.length ≤ 6) && ds.all isSign && (dd (ds.map headS)).length == ds.length) = true
  rw [decide_eq_true (by omega), h1, h4]
  have e : dd (cs.map sgn) = cs.map sgn := by
    have := dd_nodup [] (xs := cs.map sgn) (by simpa using nodup_sgn nd)
    rw [List.nil_append] at this
    exact this
  rw [e, List.length_map, h5]
  simp
/-! ### the tongue that the law draws -/
structure TgD (d : D) (ds : List D) (cs fs : List Nat) (zs : List Str) (i : Int) : Prop where
  eq : d = .tup [.lst ds, .lst ((fs.map sgn).map D.str), .lst (zs.map D.str), .int i]
  sg : SgAll ds cs
  nd : cs.Nodup
  l2 : 2 ≤ cs.length
  l6 : cs.length ≤ 6
  fn : fs.Nodup
  fo : ∀ c ∈ fs, c ∈ cs
  po : PairsOf cs cs zs
  i1 : 1 ≤ i
  i8 : i ≤ 8
theorem okStrs : ∀ {zs : List Str}, (∀ z ∈ zs, z.length ≤ 3000 ∧ Asc z) → OkAll (zs.map D.str)
  | [], _ => trivial
  | z :: zs, h => ⟨h z List.mem_cons_self, okStrs fun y hy => h y (List.mem_cons_of_mem _ hy)⟩
theorem TgD.look {d : D} {ds : List D} {cs fs : List Nat} {zs : List Str} {i : Int} (t : TgD d ds cs fs zs i) : lookOk d = true := by
  obtain ⟨rfl, sg, nd, l2, l6, fn, fo, po, i1, i8⟩ := t
  obtain ⟨h1, h2, h3, h4, h5, h6⟩ := sg.facts
  show (areSigns (.lst ds) && unlike 1 (ds.map headS) _ && unlike 2 (ds.map headS) _ && decide (1 ≤ i ∧ i ≤ 8)) = true
  rw [signs_ok sg nd l2 l6, h4, firsts_unlike fn fo, pairs_unlike po, decide_eq_true ⟨i1, i8⟩]
  rfl
theorem TgD.ok {d : D} {ds : List D} {cs fs : List Nat} {zs : List Str} {i : Int} (t : TgD d ds cs fs zs i) : Ok d := by
  obtain ⟨rfl, sg, nd, l2, l6, fn, fo, po, i1, i8⟩ := t
  obtain ⟨h1, h2, h3, h4, h5, h6⟩ := sg.facts
  refine ⟨h2, okStrs fun z hz => ?_, okStrs fun z hz => ?_, pow300 (by omega), trivial⟩
  · obtain ⟨c, hc, rfl⟩ := List.mem_map.mp hz
    exact ⟨sgn_small c, asc_one (in_letters_asc (h6 c (fo c hc)))⟩
  · obtain ⟨a, ha, b, hb, rfl⟩ := po.of z hz
    refine ⟨by rw [pairs_len]; decide, fun c hc => ?_⟩
    rw [tl_sgn2] at hc
    simp only [List.mem_cons, List.not_mem_nil, or_false] at hc
    rcases hc with rfl | rfl
    · exact in_letters_asc (h6 _ ha)
    · exact in_letters_asc (h6 _ hb)
end Dear

namespace Dear
open PySem PySem.Spec PyProof.Rows L2
/-! ### data as the library's, for == -/
mutual
def py : D → PyData
  | .non => .none
  | .bl b => .bool b
  | .int i => .int i
  | .str z => .str z
  | .lst ds => .list (pyAll ds)
  | .tup ds => .tuple (pyAll ds)
  | .dct => .none
def pyAll : List D → List PyData
  | [] => []
  | d :: ds => py d :: pyAll ds
end
mutual
def NoD : D → Prop
  | .dct => False
  | .lst ds => NoDAll ds
  | .tup ds => NoDAll ds
  | _ => True
def NoDAll : List D → Prop
  | [] => True
  | d :: ds => NoD d ∧ NoDAll ds
end
mutual
theorem Dt.dp {K : PySem.W.Frag} {H : Hp} : ∀ {v : V} {d : D}, NoD d → Dt H v d → Dp K H v (py d)
  | _, _, _, .non => .non
  | _, _, _, .bl b => .bl b
  | _, _, _, .int i => .int i
  | _, _, _, .str z => .str z
  | _, _, n, .lst h a => .lst (SqL.of h) (DtAll.dp n a)
  | _, _, n, .tup h a => .tup (SqT.of h) (DtAll.dp n a)
  | _, _, n, .dct _ => n.elim
theorem DtAll.dp {K : PySem.W.Frag} {H : Hp} : ∀ {vs : List V} {ds : List D}, NoDAll ds → DtAll H vs ds → DpAll K H vs (pyAll ds)
  | _, _, _, .nil => .nil
  | _, _, n, .cons a b => .cons (Dt.dp n.1 a) (DtAll.dp n.2 b)
end
mutual
theorem lay_py : ∀ {d : D}, Ok d → NoD d → PyData.canLay0 (py d) = true
  | .non, _, _ => rfl
  | .bl _, _, _ => rfl
  | .int _, _, _ => rfl
  | .str _, o, _ => strOk_asc o.2
  | .lst _, o, n => layAll_py o n
  | .tup _, o, n => layAll_py o n
  | .dct, _, n => n.elim
theorem layAll_py : ∀ {ds : List D}, OkAll ds → NoDAll ds → PyData.canLayAll0 (pyAll ds) = true
  | [], _, _ => rfl
  | d :: ds, o, n => by
    show (PyData.canLay0 (py d) && PyData.canLayAll0 (pyAll ds)) = true
    rw [lay_py o.1 n.1, layAll_py o.2 n.2]
    rfl
end
/-! how deep -/
mutual
def dep : D → Nat
  | .lst ds => depAll ds + 1
  | .tup ds => depAll ds + 1
  | _ => 0
def depAll : List D → Nat
  | [] => 0
  | d :: ds => max (dep d) (depAll ds)
end
mutual
theorem dep_py : ∀ d : D, PyData.depth (py d) = dep d
  | .non => rfl
  | .bl _ => rfl
  | .int _ => rfl
  | .str _ => rfl
  | .lst ds => congrArg (· + 1) (depAll_py ds)
  | .tup ds => congrArg (· + 1) (depAll_py ds)
  | .dct => rfl
theorem depAll_py : ∀ ds : List D, PyData.depthAll (pyAll ds) = depAll ds
  | [] => rfl
  | d :: ds => by
    show max (PyData.depth (py d)) (PyData.depthAll (pyAll ds)) = max (dep d) (depAll ds)
    rw [dep_py d, depAll_py ds]
end
theorem shaped_py {d : D} (o : Ok d) (n : NoD d) (h : dep d ≤ 64) : SeqAt.shaped (py d) = true := by
  show (PyData.canLay0 (py d) && decide (PyData.depth (py d) ≤ 64)) = true
  rw [lay_py o n, dep_py, decide_eq_true h]
  rfl
theorem depAll_le : ∀ {ds : List D} {n : Nat}, (∀ d ∈ ds, dep d ≤ n) → depAll ds ≤ n
  | [], _, _ => Nat.zero_le _
  | d :: ds, n, h => Nat.max_le.mpr ⟨h d List.mem_cons_self, depAll_le fun x hx => h x (List.mem_cons_of_mem _ hx)⟩
theorem noAll_of : ∀ {ds : List D}, (∀ d ∈ ds, NoD d) → NoDAll ds
  | [], _ => trivial
  | d :: ds, h => ⟨h d List.mem_cons_self, noAll_of fun x hx => h x (List.mem_cons_of_mem _ hx)⟩
theorem strs_flat (zs : List Str) : (∀ d ∈ zs.map D.str, dep d ≤ 0) ∧ ∀ d ∈ zs.map D.str, NoD d := by
  constructor <;> intro d hd <;> obtain ⟨z, _, rfl⟩ := List.mem_map.mp hd
  · exact Nat.le_refl _
  · trivial
theorem eqv_same {d : PyData} (h : SeqAt.shaped d = true) : PyData.eqv d d = true := SeqAt.eqv_refl _ (SeqAt.canLay_of_shaped h)
end Dear

namespace Dear
open PySem PySem.Spec PyProof.Rows L2
theorem LastD.flat {l : D} (h : LastD l) : dep l ≤ 1 ∧ NoD l := by
  match l, h with
  | .non, _ => exact ⟨Nat.zero_le _, trivial⟩
  | .tup [.int t, .int b], _ => exact ⟨Nat.le_refl _, trivial, trivial, trivial⟩
theorem SgD.flat {d : D} {c : Nat} (h : SgD d c) : dep d ≤ 2 ∧ NoD d := by
  obtain ⟨⟨t, b, l, rfl, _, hl⟩, _⟩ := h
  obtain ⟨h1, h2⟩ := hl.flat
  refine ⟨?_, trivial, ⟨trivial, trivial, trivial⟩, h2, trivial⟩
  show max 0 (max (max 0 (max 0 0) + 1) (max (dep l) 0)) + 1 ≤ 2
  omega
theorem SgAll.flat : ∀ {ds : List D} {cs : List Nat}, SgAll ds cs → depAll ds ≤ 2 ∧ NoDAll ds
  | _, _, .nil => ⟨Nat.zero_le _, trivial⟩
  | _, _, .cons a b => ⟨Nat.max_le.mpr ⟨a.flat.1, (SgAll.flat b).1⟩, a.flat.2, (SgAll.flat b).2⟩
theorem TgD.flat {d : D} {ds : List D} {cs fs : List Nat} {zs : List Str} {i : Int} (t : TgD d ds cs fs zs i) : dep d ≤ 64 ∧ NoD d := by
  rw [t.eq]
  obtain ⟨h1, h2⟩ := t.sg.flat
  have a1 := depAll_le (strs_flat (fs.map sgn)).1
  have a2 := depAll_le (strs_flat zs).1
  refine ⟨?_, h2, noAll_of (strs_flat _).2, noAll_of (strs_flat _).2, trivial, trivial⟩
  show max (depAll ds + 1) (max (depAll ((fs.map sgn).map D.str) + 1) (max (depAll (zs.map D.str) + 1) (max 0 0))) + 1 ≤ 64
  omega
theorem TgD.shaped {d : D} {ds : List D} {cs fs : List Nat} {zs : List Str} {i : Int} (t : TgD d ds cs fs zs i) : SeqAt.shaped (py d) = true := shaped_py t.ok t.flat.2 t.flat.1
end Dear

namespace Dear
open PySem PySem.Spec PyProof.Rows L2
/-! ### text * number -/
theorem fold_rep (a : Array Nat) : ∀ (k : Nat) (acc : Array Nat), ((List.replicate k a).foldl (· ++ ·) acc).toList = acc.toList ++ (List.replicate k a.toList).flatten
  | 0, acc => by simp
  | k + 1, acc => by
    rw [List.replicate_succ, List.replicate_succ, List.foldl_cons, fold_rep a k, List.flatten_cons, Array.toList_append, List.append_assoc]
def repT (l : List Nat) (k : Nat) : List Nat := (List.replicate k l).flatten
theorem repT_len (l : List Nat) (k : Nat) : (repT l k).length = k * l.length := by
  unfold repT
  simp
def rRepS : R2 := fun x y H Q => ∃ (l : List Nat) (n : Int), x = .str (txt l) ∧ y = .int n ∧ 0 ≤ n ∧ n ≤ 1000 ∧ l.length ≤ 1000 ∧ Q (.str (txt (repT l n.toNat))) H
theorem op_repS {X : Cx} : OpR X (binaryOp .Mult) rRepS := by
  intro pins s σ H x y v u Q I rx ry h
  obtain ⟨l, n, rfl, rfl, h0, h1, hl, q⟩ := h
  obtain ⟨t, rfl⟩ := rx
  obtain ⟨t', rfl⟩ := ry
  have ln := txt_length l
  have big : l.length * n.toNat ≤ 1000 * 1000 := Nat.mul_le_mul hl (by omega)
  refine PySem.P.mul_str (x := txt l) (by rw [decide_eq_false (by omega), decide_eq_false (by omega)]; rfl) (fun h2 _ => ?_) (fun _ _ => ?_) ?_
  · have h3 : 0 < n := by omega
    have h4 : ((txt l).length : Int) ≤ (2 ^ 63 - 1) / n := by
      rw [Int.le_ediv_iff_mul_le h3, ln]
      have e : ((l.length * n.toNat : Nat) : Int) = (l.length : Int) * n := by
        rw [Int.natCast_mul, Int.toNat_of_nonneg h0]
      rw [← e]
      omega
    omega
  · unfold Builtin.Str.tooLong
    rw [ln]
    refine decide_eq_false ?_
    have := sz_lit (n := 0) (by decide)
    rw [sizeLine_eq]
    omega
  · by_cases e1 : n < 1
    · rw [if_pos e1]
      have e2 : n = 0 := by omega
      subst e2
      exact ⟨by decide, .str (txt (repT l 0)), H, I.tok _, ⟨_, rfl⟩, q⟩
    · rw [if_neg e1]
      by_cases e2 : (n == 1 || (txt l).length == 0) = true
      · rw [if_pos e2]
        have e3 : repT l n.toNat = l := by
          rw [ln] at e2
          simp only [Bool.or_eq_true, beq_iff_eq] at e2
          rcases e2 with e2 | e2
          · subst e2
            simp [repT]
          · have e3 : l = [] := List.length_eq_zero_iff.mp e2
            subst e3
            simp [repT]
        rw [e3] at q
        exact ⟨.str (txt l), H, I, ⟨_, rfl⟩, q⟩
      · rw [if_neg e2]
        have e3 : (⟨(List.replicate n.toNat (txt l).cps).foldl (· ++ ·) #[]⟩ : Str) = txt (repT l n.toNat) := by
          rw [txt_of ⟨(List.replicate n.toNat (txt l).cps).foldl (· ++ ·) #[]⟩]
          congr 1
          show ((List.replicate n.toNat (txt l).cps).foldl (· ++ ·) #[]).toList = _
          rw [fold_rep, txt_list]
          rfl
        rw [e3]
        refine ⟨?_, .str (txt (repT l n.toNat)), H, I.tok _, ⟨_, rfl⟩, q⟩
        rw [txt_length, repT_len, Nat.mul_comm, sizeLine_eq]
        omega
end Dear

namespace Dear
open PySem PySem.Spec PyProof.Rows L2
/-! ### names and wants as author B's laws draw them -/
def letN (i : Nat) : Nat := letters.cps.toList.getD i 0
def sufL (a : Nat) : List Nat := if a / 26 = 0 then [] else if a / 26 = 1 then [97] else [122, 122]
def tellL (a : Nat) : List Nat := letN (a % 26) :: sufL a
def moreL (s : Nat) : List Nat := repT [letN (s % 26)] (s / 26 % 6)
def nameL (k s : Nat) : List Nat := if s % 2 = 0 then moreL s ++ tellL ((37 * k + s) % 61) else tellL ((37 * k + s) % 61) ++ moreL s
theorem letN_at {i : Nat} (h : i < 26) : letters.cps.toList[i]? = some (letN i) := by
  have hl : i < letters.cps.toList.length := by
    rw [show letters.cps.toList.length = 26 from by decide +kernel]
    exact h
  unfold letN
  rw [List.getD_eq_getElem?_getD, List.getElem?_eq_getElem hl]
  rfl
theorem letN_mem {i : Nat} (h : i < 26) : letN i ∈ letters.cps.toList := List.mem_of_getElem? (letN_at h)
theorem letN_atI {i : Nat} (h : i < 26) : atI letters.cps.toList (i : Int) = some (letN i) := atI_nat (letN_at h)
theorem suf_mem (a : Nat) : ∀ c ∈ sufL a, c ∈ letters.cps.toList := by
  unfold sufL
  split
  · exact fun _ h => nomatch h
  · split
    · decide +kernel
    · decide +kernel
theorem suf_len (a : Nat) : (sufL a).length ≤ 2 := by
  unfold sufL
  split
  · decide
  · split <;> decide
theorem tell_inj : ∀ a < 61, ∀ b < 61, tellL a = tellL b → a = b := by decide +kernel
theorem name_of (k s : Nat) : (∀ c ∈ nameL k s, c ∈ letters.cps.toList) ∧ 1 ≤ (nameL k s).length ∧ (nameL k s).length ≤ 8 := by
  have m1 : ∀ c ∈ moreL s, c ∈ letters.cps.toList := fun c hc => by
    unfold moreL repT at hc
    obtain ⟨l, hl, hc⟩ := List.mem_flatten.mp hc
    have := List.eq_of_mem_replicate hl
    subst this
    have : c = letN (s % 26) := by simpa using hc
    subst this
    exact letN_mem (Nat.mod_lt _ (by decide))
  have m2 : (moreL s).length ≤ 5 := by
    unfold moreL
    rw [repT_len]
    show s / 26 % 6 * 1 ≤ 5
    omega
  have t1 : ∀ a, ∀ c ∈ tellL a, c ∈ letters.cps.toList := fun a c hc => by
    rcases List.mem_cons.mp hc with rfl | hc
    · exact letN_mem (Nat.mod_lt _ (by decide))
    · exact suf_mem a c hc
  have t2 : ∀ a, (tellL a).length = (sufL a).length + 1 := fun _ => rfl
  have t3 := suf_len ((37 * k + s) % 61)
  have t4 := t2 ((37 * k + s) % 61)
  unfold nameL
  split
  · refine ⟨fun c hc => ?_, ?_, ?_⟩
    · rcases List.mem_append.mp hc with hc | hc
      · exact m1 c hc
      · exact t1 _ c hc
    · rw [List.length_append]; omega
    · rw [List.length_append]; omega
  · refine ⟨fun c hc => ?_, ?_, ?_⟩
    · rcases List.mem_append.mp hc with hc | hc
      · exact t1 _ c hc
      · exact m1 c hc
    · rw [List.length_append]; omega
    · rw [List.length_append]; omega
theorem name_inj {s i j : Nat} (hi : i < 61) (hj : j < 61) (h : nameL i s = nameL j s) : i = j := by
  have e : tellL ((37 * i + s) % 61) = tellL ((37 * j + s) % 61) := by
    unfold nameL at h
    split at h
    · exact List.append_cancel_left h
    · exact List.append_cancel_right h
  have := tell_inj _ (Nat.mod_lt _ (by decide)) _ (Nat.mod_lt _ (by decide)) e
  omega
/-! ### wants -/
def wantD (w : List Nat × Int) : D := .tup [.str (txt w.1), .int w.2]
structure WOk (w : List Nat × Int) : Prop where
  l : ∀ c ∈ w.1, c ∈ letters.cps.toList
  n1 : 1 ≤ w.1.length
  n8 : w.1.length ≤ 8
  c0 : 0 ≤ w.2
  c9 : w.2 ≤ 1000000000
structure WsOk (ws : List (List Nat × Int)) : Prop where
  all : ∀ w ∈ ws, WOk w
  nd : (ws.map Prod.fst).Nodup
theorem names_nodup (s n : Nat) (h : n ≤ 61) : ((List.range n).map fun k => nameL k s).Nodup := by
  rw [List.nodup_iff_pairwise_ne, List.pairwise_map]
  refine List.Pairwise.imp_of_mem ?_ (List.nodup_iff_pairwise_ne.mp List.nodup_range)
  intro a b ha hb hne e
  exact hne (name_inj (by have := List.mem_range.mp ha; omega) (by have := List.mem_range.mp hb; omega) e)
def isWant : D → Bool
  | .tup [a, .int c] => isNm a && decide (0 ≤ c ∧ c ≤ 1000000000)
  | _ => false
def nameD : D → Str
  | .tup (.str z :: _) => z
  | _ => ""
/-- the first that can't stand -/
def badAt (i : Nat) : List Str → List D → Option V
  | _, [] => none
  | seen, d :: r => if isWant d && !decide (nameD d ∈ seen) then badAt (i + 1) (seen ++ [nameD d]) r else some (.int (i : Nat))
def wantsBad : D → Option V
  | .lst ds => if 1 ≤ ds.length ∧ ds.length ≤ 20 then badAt 0 [] ds else some .non
  | _ => some .non
theorem nm_txt {l : List Nat} (h : ∀ c ∈ l, c ∈ letters.cps.toList) (h1 : 1 ≤ l.length) (h8 : l.length ≤ 8) : isNm (.str (txt l)) = true := by
  show (decide (1 ≤ (txt l).length ∧ (txt l).length ≤ 8) && (txt l).cps.toList.all fun c => decide (c ∈ letters.cps.toList)) = true
  rw [txt_length, txt_list, decide_eq_true ⟨h1, h8⟩, Bool.true_and, List.all_eq_true]
  exact fun c hc => decide_eq_true (h c hc)
theorem WOk.is {w : List Nat × Int} (h : WOk w) : isWant (wantD w) = true := by
  show (isNm (.str (txt w.1)) && decide (0 ≤ w.2 ∧ w.2 ≤ 1000000000)) = true
  rw [nm_txt h.l h.n1 h.n8, decide_eq_true ⟨h.c0, h.c9⟩]
  rfl
theorem bad_none : ∀ {ws : List (List Nat × Int)} {seen : List (List Nat)} {i : Nat}, (∀ w ∈ ws, WOk w) → (seen ++ ws.map Prod.fst).Nodup → badAt i (seen.map txt) (ws.map wantD) = none
  | [], _, _, _, _ => rfl
  | w :: ws, seen, i, h, nd => by
    have h1 := (h w List.mem_cons_self).is
    have h2 : ¬ txt w.1 ∈ seen.map txt := fun q => by
      obtain ⟨l, hl, e⟩ := List.mem_map.mp q
      have e := txt_inj e
      subst e
      exact (List.nodup_append.mp nd).2.2 _ hl _ (List.mem_cons_self ..) rfl
    show (if isWant (wantD w) && !decide (txt w.1 ∈ seen.map txt) then badAt (i + 1) (seen.map txt ++ [txt w.1]) (ws.map wantD) else _) = none
    rw [h1, decide_eq_false h2, if_pos (by rfl)]
    have := bad_none (ws := ws) (seen := seen ++ [w.1]) (i := i + 1) (fun x hx => h x (List.mem_cons_of_mem _ hx)) (by rw [List.append_assoc]; exact nd)
    rw [List.map_append] at this
    exact this
theorem wants_good {ws : List (List Nat × Int)} (h : WsOk ws) (h1 : 1 ≤ ws.length) (h2 : ws.length ≤ 20) : wantsBad (.lst (ws.map wantD)) = none := by
  show (if 1 ≤ (ws.map wantD).length ∧ (ws.map wantD).length ≤ 20 then badAt 0 [] (ws.map wantD) else some .non) = none
  rw [List.length_map, if_pos ⟨h1, h2⟩]
  exact bad_none (seen := []) h.all h.nd
theorem WOk.facts {w : List Nat × Int} (h : WOk w) : Ok (wantD w) ∧ NoD (wantD w) ∧ dep (wantD w) ≤ 1 := by
  refine ⟨⟨⟨?_, fun c hc => ?_⟩, ?_, trivial⟩, ⟨trivial, trivial, trivial⟩, Nat.le_refl _⟩
  · rw [txt_length]
    have := h.n8
    omega
  · rw [txt_list] at hc
    exact in_letters_asc (h.l c hc)
  · have h1 := h.c0
    have h2 := h.c9
    exact Nat.lt_of_lt_of_le (show w.2.natAbs < 2 ^ 40 by omega) (Nat.pow_le_pow_right (by decide) (by decide))
theorem wants_facts {ws : List (List Nat × Int)} (h : ∀ w ∈ ws, WOk w) : Ok (.lst (ws.map wantD)) ∧ NoD (.lst (ws.map wantD)) ∧ dep (.lst (ws.map wantD)) ≤ 64 := by
  refine ⟨?_, ?_, ?_⟩
  · show OkAll (ws.map wantD)
    induction ws with
    | nil => trivial
    | cons w r ih => exact ⟨(h w List.mem_cons_self).facts.1, ih fun x hx => h x (List.mem_cons_of_mem _ hx)⟩
  · refine noAll_of fun d hd => ?_
    obtain ⟨w, hw, rfl⟩ := List.mem_map.mp hd
    exact (h w hw).facts.2.1
  · have := depAll_le (ds := ws.map wantD) (n := 1) fun d hd => by
      obtain ⟨w, hw, rfl⟩ := List.mem_map.mp hd
      exact (h w hw).facts.2.2
    show depAll (ws.map wantD) + 1 ≤ 64
    omega
end Dear

namespace Dear
open PySem PySem.Spec PyProof.Rows L2
/-! ### what a display makes, of new objects alone -/
def New (H0 H : Hp) : Hp := fun b => if (H0 b).isSome then none else H b
theorem new_at {H0 H : Hp} {b : Addr} (h : H0 b = none) : New H0 H b = H b := by
  unfold New
  rw [h]
  rfl
theorem new_some {H0 H : Hp} {b : Addr} {o : HO} (h : New H0 H b = some o) : H0 b = none ∧ H b = some o := by
  unfold New at h
  cases e : H0 b with
  | none =>
    rw [e] at h
    exact ⟨rfl, h⟩
  | some u =>
    rw [e] at h
    cases h
theorem New.sub (H0 H : Hp) : Same (New H0 H) H := fun _ _ e => (new_some e).2
theorem New.mono {H0 H H' : Hp} (s : Same H H') : Same (New H0 H) (New H0 H') := fun b o e => by
  obtain ⟨h1, h2⟩ := new_some e
  rw [new_at h1]
  exact s _ _ h2
theorem New.but {H0 H H' : Hp} {l : Addr} {o : HO} (hl : H0 l = some o) (s : But l H H') : Same (New H0 H) (New H0 H') := fun b o e => by
  obtain ⟨h1, h2⟩ := new_some e
  rw [new_at h1]
  exact s _ _ h2 fun z => by
    rw [z, hl] at h1
    cases h1
theorem New.off {H0 H : Hp} {l : Addr} {o : HO} (hl : H0 l = some o) : Same (New H0 H) (Off l H) := fun b o e => by
  obtain ⟨h1, h2⟩ := new_some e
  rw [off_ne fun z => by
    rw [z, hl] at h1
    cases h1]
  exact h2
/-- one base heap in the other's place -/
theorem New.base {H0 H1 H : Hp} (s : Same H0 H1) : Same (New H1 H) (New H0 H) := fun b o e => by
  obtain ⟨h1, h2⟩ := new_some e
  rw [new_at]
  · exact h2
  · cases q : H0 b with
    | none => rfl
    | some u =>
      rw [s _ _ q] at h1
      cases h1
theorem same_none {H0 H1 : Hp} {p : Addr} (s : Same H0 H1) (h : H1 p = none) : H0 p = none := by
  cases q : H0 p with
  | none => rfl
  | some u =>
    rw [s _ _ q] at h
    cases h
def MkN (σ : L2.St) (t : TE) (H : Hp) (d : D) : Prop := ∀ H1, Same H H1 → ∀ Q : VK, (∀ v H2, Same H1 H2 → Dt (New H H2) v d → Q v H2) → t σ H1 Q
def MkNA (σ : L2.St) (t : TA) (H : Hp) (ds : List D) : Prop := ∀ H1, Same H H1 → ∀ Q : List V → Hp → Prop, (∀ vs H2, Same H1 H2 → DtAll (New H H2) vs ds → Q vs H2) → t σ H1 Q
section
variable {σ : L2.St} {H : Hp}
theorem mkn_c {v : V} {d : D} (h : ∀ H', Dt H' v d) : MkN σ (tC v) H d := fun H1 _ _ q => q v H1 (Same.refl _) (h _)
theorem mkn_var {i : Nat} {v : V} {d : D} (e : σ[i]? = some (some v)) (h : ∀ H', Dt H' v d) : MkN σ (tVar i) H d := fun H1 _ _ q => ⟨v, e, q v H1 (Same.refl _) (h _)⟩
/-- a number, reckoned -/
theorem mkn_i {t : TE} {i : Int} (h : ∀ (H1 : Hp) (Q : VK), Q (.int i) H1 → t σ H1 Q) : MkN σ t H (.int i) := fun H1 _ Q q => h H1 Q (q _ H1 (Same.refl _) (.int i))
theorem mkna_nil : MkNA σ tNil H [] := fun H1 _ _ q => q [] H1 (Same.refl _) .nil
theorem mkna_cons {t : TE} {u : TA} {d : D} {ds : List D} (h1 : MkN σ t H d) (h2 : MkNA σ u H ds) : MkNA σ (tCons t u) H (d :: ds) := fun H1 s Q q => by
  refine h1 H1 s _ fun v H2 s2 d2 => ?_
  refine h2 H2 (s.trans s2) _ fun vs H3 s3 d3 => ?_
  exact q (v :: vs) H3 (s2.trans s3) (.cons (d2.same (New.mono s3)) d3)
theorem mkn_tup {u : TA} {ds : List D} (h : MkNA σ u H ds) (hz : Nat.ble ds.length 1000 = true := by rfl) : MkN σ (tTup u) H (.tup ds) := fun H1 s Q q => by
  refine h H1 s _ fun vs H2 s2 d2 => ?_
  refine ⟨sz_lit (by rw [d2.length]; exact Nat.le_of_ble_eq_true hz), fun p hp => ?_⟩
  exact q (.ref p) _ (s2.trans (Same.upd hp)) (.tup (by rw [new_at (same_none (s.trans s2) hp)]; exact upd_same) (d2.same (New.mono (Same.upd hp))))
theorem mkn_lst {u : TA} {ds : List D} (h : MkNA σ u H ds) (hz : Nat.ble ds.length 1000 = true := by rfl) : MkN σ (tLst u) H (.lst ds) := fun H1 s Q q => by
  refine h H1 s _ fun vs H2 s2 d2 => ?_
  refine ⟨sz_lit (by rw [d2.length]; exact Nat.le_of_ble_eq_true hz), fun p hp => ?_⟩
  exact q (.ref p) _ (s2.trans (Same.upd hp)) (.lst (by rw [new_at (same_none (s.trans s2) hp)]; exact upd_same) (d2.same (New.mono (Same.upd hp))))
theorem mkn_dnew : MkN σ tDNewK H .dct := fun H1 s Q q p hp => q (.ref p) _ (Same.upd hp) (.dct (by rw [new_at (same_none s hp)]; exact upd_same))
theorem mkn_neg {i : Int} : MkN σ (tUn (rU fun i => .int (-i)) (tC (.int i))) H (.int (-i)) := fun H1 _ _ q => ⟨i, rfl, q _ H1 (Same.refl _) (.int _)⟩
theorem MkN.go {t : TE} {d : D} (h : MkN σ t H d) {Q : VK} (q : ∀ v H2, Same H H2 → Dt (New H H2) v d → Q v H2) : t σ H Q := h H (Same.refl H) Q q
theorem MkNA.go {t : TA} {ds : List D} (h : MkNA σ t H ds) {Q : List V → Hp → Prop} (q : ∀ vs H2, Same H H2 → DtAll (New H H2) vs ds → Q vs H2) : t σ H Q := h H (Same.refl H) Q q
end
section
variable {σ : L2.St} {H : Hp}
theorem s_tup {u : TA} {Q : VK} (h : u σ H fun vs H' => vs.length ≤ sizeLine ∧ ∀ p, H' p = none → Q (.ref p) (upd H' p (.tup vs))) : tTup u σ H Q := h
theorem s_lst {u : TA} {Q : VK} (h : u σ H fun vs H' => vs.length ≤ sizeLine ∧ ∀ p, H' p = none → Q (.ref p) (upd H' p (.lst vs))) : tLst u σ H Q := h
theorem s_cons {t : TE} {u : TA} {Q : List V → Hp → Prop} (h : t σ H fun v H1 => u σ H1 fun vs H2 => Q (v :: vs) H2) : tCons t u σ H Q := h
end
/-! data that avoid l and avoid q avoid both -/
mutual
theorem Dt.off2 {H : Hp} {l q : Addr} : ∀ {v : V} {d : D}, Dt (Off l H) v d → Dt (Off q H) v d → Dt (Off q (Off l H)) v d
  | _, _, .non, _ => .non
  | _, _, .bl b, _ => .bl b
  | _, _, .int i, _ => .int i
  | _, _, .str z, _ => .str z
  | _, _, .lst h1 a1, .lst h2 a2 => by
    obtain ⟨n1, e1⟩ := off_some h1
    obtain ⟨n2, e2⟩ := off_some h2
    rw [e1] at e2
    cases e2
    exact .lst (by rw [off_ne n2, off_ne n1]; exact e1) (DtAll.off2 a1 a2)
  | _, _, .tup h1 a1, .tup h2 a2 => by
    obtain ⟨n1, e1⟩ := off_some h1
    obtain ⟨n2, e2⟩ := off_some h2
    rw [e1] at e2
    cases e2
    exact .tup (by rw [off_ne n2, off_ne n1]; exact e1) (DtAll.off2 a1 a2)
  | _, _, .dct h1, .dct h2 => by
    obtain ⟨n1, e1⟩ := off_some h1
    obtain ⟨n2, e2⟩ := off_some h2
    exact .dct (by rw [off_ne n2, off_ne n1]; exact e1)
theorem DtAll.off2 {H : Hp} {l q : Addr} : ∀ {vs : List V} {ds : List D}, DtAll (Off l H) vs ds → DtAll (Off q H) vs ds → DtAll (Off q (Off l H)) vs ds
  | _, _, .nil, _ => .nil
  | _, _, .cons a b, .cons c d => .cons (Dt.off2 a c) (DtAll.off2 b d)
end
theorem TP.off {H : Hp} {l : Addr} {xs : List V} (h : H l = some (.lst xs)) : TP H (Off l H) := fun b ys e => by
  rw [off_ne (ne_of e h (by intro z; cases z))]
  exact e
theorem lt300 {n : Nat} (h : n < 2 ^ 200) : n < 2 ^ 300 := Nat.lt_of_lt_of_le h (Nat.pow_le_pow_right (by decide) (by decide))
theorem cutV_pre (l : List V) (j : Nat) : cutV l none (some (j : Int)) = l.take j := by
  unfold cutV
  rw [HT.sIx_none, HT.sIx_nat, List.drop_zero, Nat.sub_zero]
  by_cases h : j ≤ l.length
  · rw [Nat.min_eq_left h]
  · rw [Nat.min_eq_right (by omega), List.take_length, List.take_of_length_le (by omega)]
theorem cutV_from (l : List V) (j : Nat) : cutV l (some (j : Int)) none = l.drop j := by
  unfold cutV
  rw [HT.sIx_none, HT.sIx_nat]
  by_cases h : j ≤ l.length
  · rw [Nat.min_eq_left h, List.take_of_length_le (by rw [List.length_drop]; exact Nat.le_refl _)]
  · rw [Nat.min_eq_right (by omega), List.drop_length, List.drop_of_length_le (by omega), List.take_nil]
theorem DtAll.drop {H : Hp} : ∀ {vs : List V} {ds : List D} (n : Nat), DtAll H vs ds → DtAll H (vs.drop n) (ds.drop n)
  | _, _, 0, h => h
  | _, _, _ + 1, .nil => .nil
  | _, _, n + 1, .cons _ b => DtAll.drop n b
theorem DtAll.set {H : Hp} {v : V} {d : D} (h : Dt H v d) : ∀ {vs : List V} {ds : List D} (n : Nat), DtAll H vs ds → DtAll H (vs.set n v) (ds.set n d)
  | _, _, _, .nil => .nil
  | _, _, 0, .cons _ b => .cons h b
  | _, _, n + 1, .cons a b => .cons a (DtAll.set h n b)
theorem OkAll.take : ∀ {ds : List D} (n : Nat), OkAll ds → OkAll (ds.take n)
  | _, 0, _ => trivial
  | [], _ + 1, _ => trivial
  | _ :: _, n + 1, h => ⟨h.1, OkAll.take n h.2⟩
theorem OkAll.drop : ∀ {ds : List D} (n : Nat), OkAll ds → OkAll (ds.drop n)
  | _, 0, h => h
  | [], _ + 1, _ => trivial
  | _ :: _, n + 1, h => OkAll.drop n h.2
theorem OkAll.set {d : D} (h : Ok d) : ∀ {ds : List D} (n : Nat), OkAll ds → OkAll (ds.set n d)
  | [], _, _ => trivial
  | _ :: _, 0, g => ⟨h, g.2⟩
  | _ :: _, n + 1, g => ⟨g.1, OkAll.set h n g.2⟩
/-- a list's item at a drawn place -/
theorem pickN {H0 H : Hp} {xs : List V} {ds : List D} (hall : DtAll (New H0 H) xs ds) (ok : OkAll ds) {r : Int} (r0 : 0 ≤ r) (r1 : r < ds.length) : ∃ (v : V) (d : D), atI xs r = some v ∧ Dt (New H0 H) v d ∧ Ok d := by
  obtain ⟨v, hv, _, hr⟩ := at_lt (xs := xs) r0 (by rw [hall.length]; exact r1)
  obtain ⟨d, hd, h⟩ := hall.get hr
  exact ⟨v, d, hv, h, ok.mem (List.mem_of_getElem? hd)⟩
theorem okS {z : Str} (h : z.length ≤ 3000 := by decide +kernel) (a : Asc z := by decide +kernel) : Ok (.str z) := ⟨h, a⟩
theorem okI {i : Int} (h : i.natAbs < 2 ^ 200 := by decide) : Ok (.int i) := lt300 h
theorem But.none {l p : Addr} {H H' : Hp} (B : But l H H') (h : H' p = none) (ne : p ≠ l) : H p = none := by
  cases e : H p with
  | none => rfl
  | some o =>
    rw [B _ _ e ne] at h
    cases h
theorem new_back {H H1 H2 : Hp} {l : Addr} (B : But l H H1) (S1 : Src H1 l) : Same (New H1 H2) (New H H2) := fun b o e => by
  obtain ⟨h1, h2⟩ := new_some e
  rw [new_at (B.none h1 (S1.ne h1))]
  exact h2
section
variable {l : Addr} {σ : L2.St} {H : Hp} {K : PySem.W.Frag}
theorem mk_tupof {i : Nat} {p : Addr} {xs : List V} {ds : List D} {o : HO} (e : σ[i]? = some (some (.ref p))) (hp : H p = some (.lst xs)) (hd : DtAll (Off l H) xs ds) (hl : H l = some o) : Mk l σ (tCB (rTupOf K) (tCons (tVar i) tNil)) H (.tup ds) := fun H1 s Q q => by
  refine ⟨_, e, p, xs, rfl, .inl ⟨SqL.of (s _ _ hp), fun r hr => ?_⟩⟩
  have ne : r ≠ l := fun z => by
    subst z
    rw [s _ _ hl] at hr
    cases hr
  exact q (.ref r) _ (Same.upd hr) (.tup (by rw [off_ne ne]; exact upd_same) (hd.same (sOff (s.trans (Same.upd hr)))))
end
theorem dt_rep {H : Hp} {v : V} {d : D} (h : Dt H v d) : ∀ n : Nat, DtAll H (List.replicate n [v]).flatten (List.replicate n d)
  | 0 => .nil
  | n + 1 => by
    rw [List.replicate_succ, List.replicate_succ, List.flatten_cons]
    exact .cons h (dt_rep h n)
theorem ok_rep {d : D} (h : Ok d) : ∀ n : Nat, OkAll (List.replicate n d)
  | 0 => trivial
  | n + 1 => ⟨h, ok_rep h n⟩
theorem Src.lst {H : Hp} {l : Addr} (S : Src H l) : ∃ xs, H l = Option.some (.lst xs) := by
  obtain ⟨n, z, e, _⟩ := S
  exact ⟨_, e⟩
end Dear

namespace Dear
open PySem PySem.Spec PyProof.Rows L2
/-! ### == of data, and of a dict with a list -/
section
variable {A : Around} {s : Shared}
theorem dict_eq_declines_list (l b : Addr) (es : Array DictEntry) (ep : Nat) (items2 : Array Value) (n2 : Nat) (dd dd2 : Option Addr) (sl sl2 : Array (Option Value)) :
    Meets (Builtin.«dict.__eq__» ⟨[.ref l, .ref b], []⟩) (fun _ R s => s.heap.get? l = some { cls := .type "dict", dict := dd, data := .dict es ep, slots := sl } ∧ s.heap.get? b = some { cls := .type "list", dict := dd2, data := .seq items2 n2, slots := sl2 } ∧ R (.ok (.ret .notImplemented)) s) :=
  .of_wp fun prog w A R s h => by obtain ⟨hp, g, d, tk, os⟩ := s; obtain ⟨hl, hb, h⟩ := h; have f1 := F.sub_list_dict; wp_walk using wpAny_loadPart' hl, wpAny_loadPart' hb; exact ⟨_, rfl, h⟩
theorem list_eq_declines_dict (l b : Addr) (items : Array Value) (n : Nat) (es : Array DictEntry) (ep : Nat) (dd dd2 : Option Addr) (sl sl2 : Array (Option Value)) :
    Meets (Builtin.«list.__eq__» ⟨[.ref l, .ref b], []⟩) (fun _ R s => s.heap.get? l = some { cls := .type "list", dict := dd, data := .seq items n, slots := sl } ∧ s.heap.get? b = some { cls := .type "dict", dict := dd2, data := .dict es ep, slots := sl2 } ∧ R (.ok (.ret .notImplemented)) s) :=
  .of_wp fun prog w A R s h => by obtain ⟨hp, g, d, tk, os⟩ := s; obtain ⟨hl, hb, h⟩ := h; have f1 := F.sub_dict_list; wp_walk using wpAny_loadPart' hl, wpAny_loadPart' hb; exact ⟨_, rfl, h⟩
theorem rc_dict_list {l b : Addr} {es : Array DictEntry} {ep : Nat} {items2 : Array Value} {n2 : Nat} {dd dd2 : Option Addr} {sl sl2 : Array (Option Value)} (hne : l ≠ b) (ho : s.heap.get? l = some { cls := .type "dict", dict := dd, data := .dict es ep, slots := sl }) (ho2 : s.heap.get? b = some { cls := .type "list", dict := dd2, data := .seq items2 n2, slots := sl2 }) (hu : A.units < cLine) : SeqAt.RcAt A s (.ref l) (.ref b) false := fun prog w E Q h => by
  exact SeqAt.rc_eq_decline_or (k := false) ⟨_, ho, rfl⟩ ⟨_, ho2, rfl⟩ (by decide) F.sub_list_dict F.slot_dict_eq F.slot_list_eq_refl
    (fun _ hq => call_meets F.slot_dict_eq ⟨_, ho, rfl⟩ F.entry_dict_eq (F.args_dict_eq_2 _ _) (dict_eq_declines_list l b es ep items2 n2 dd dd2 sl sl2) ⟨ho, ho2, hq⟩)
    (fun _ hq => call_meets F.slot_list_eq_refl ⟨_, ho2, rfl⟩ F.entry_list_eq (F.args_list_eq_2 _ _) (list_eq_declines_dict b l items2 n2 es ep dd2 dd sl2 sl) ⟨ho2, ho, hq⟩)
    (fun _ hq => wpAny_isSame_ref_other hne ho ho2 (by simp) hq) (.inr hu) h
end
def rEqDX (K : PySem.W.Frag) : R2 := fun x y H Q => rEqD K x y H Q ∨ ∃ (a b : Addr) (kvs : List (Key × V)) (ys : List V), x = .ref a ∧ y = .ref b ∧ H a = some (.dK kvs) ∧ SqL K H b ys ∧ Q (.bl false) H
theorem op_eqDX_k {X : Cx} (K : PySem.W.Frag) (hu : X.A.units + 64 < cLine) (hk : X.K = K := by rfl) : OpR X (compareOp .Eq) (rEqDX K) := by
  subst hk
  intro pins s σ H x y v u Q I rx ry h
  rcases h with h | ⟨a, b, kvs, ys, rfl, rfl, ha, hb, q⟩
  · exact op_eqD hu pins s σ H x y v u Q I rx ry h
  · cases rx
    cases ry
    obtain ⟨_, _, vs, _, ⟨o, es, ep, ho, hex, hdt, _⟩⟩ := I.hok _ _ ha
    obtain ⟨cls, dd, data, sl⟩ := o
    simp only at hdt
    subst hdt
    obtain ⟨hc, hdd⟩ := hex
    simp only at hc
    subst hc
    obtain ⟨its, r, pl, hz⟩ := I.list hb
    obtain ⟨⟨cls2, dd2, data2, sl2⟩, ho2, hc2, n2, hd2⟩ := pl.isList
    simp only at hc2 hd2
    subst hc2 hd2
    have ne : a ≠ b := fun e => by
      subst e
      rw [ho] at ho2
      exact absurd (congrArg (fun o => o.map Obj.cls) ho2) (by simp)
    exact rc_dict_list ne ho ho2 (by omega) X.prog X.w _ _ ⟨.bl false, H, I, rfl, q⟩
end Dear

namespace Dear
open PySem PySem.Spec PyProof.Rows L2
/-! ### what an expression makes: a value that bears d, nothing that was there is changed -/
def MkE (σ : L2.St) (t : TE) (H : Hp) (d : D) : Prop := ∀ H1, Same H H1 → ∀ Q : VK, (∀ v H2, Same H1 H2 → Dt H2 v d → Q v H2) → t σ H1 Q
def MkEA (σ : L2.St) (t : TA) (H : Hp) (ds : List D) : Prop := ∀ H1, Same H H1 → ∀ Q : List V → Hp → Prop, (∀ vs H2, Same H1 H2 → DtAll H2 vs ds → Q vs H2) → t σ H1 Q
theorem cutV_init (l : List V) : cutV l none (some (-1)) = l.take (l.length - 1) := by
  unfold cutV
  rw [HT.sIx_none, List.drop_zero, Nat.sub_zero]
  congr 1
  show (if (-1 : Int) < 0 then (-1 + (l.length : Int)).toNat else min (-1 : Int).toNat l.length) = l.length - 1
  rw [if_pos (by decide)]
  omega
theorem DtAll.rep {H : Hp} {xs : List V} {ds : List D} (h : DtAll H xs ds) : ∀ n : Nat, DtAll H (List.replicate n xs).flatten (List.replicate n ds).flatten
  | 0 => .nil
  | n + 1 => by
    rw [List.replicate_succ, List.replicate_succ, List.flatten_cons, List.flatten_cons]
    exact h.app (DtAll.rep h n)
theorem DtAll.atN {H : Hp} : ∀ {vs : List V} {ds : List D} {i : Nat} {d : D}, DtAll H vs ds → ds[i]? = some d → ∃ v, vs[i]? = some v ∧ Dt H v d
  | _, _, _, _, .nil, e => by simp at e
  | _, _, 0, _, .cons a _, e => by
    simp at e
    subst e
    exact ⟨_, rfl, a⟩
  | _, _, i + 1, d, .cons _ b, e => by
    obtain ⟨v, h1, h2⟩ := DtAll.atN (i := i) (d := d) b (by simpa using e)
    exact ⟨v, by simpa using h1, h2⟩
theorem Dt.lstAt {H : Hp} {v : V} {ds : List D} (h : Dt H v (.lst ds)) : ∃ (a : Addr) (xs : List V), v = .ref a ∧ H a = some (.lst xs) ∧ DtAll H xs ds := by
  cases h with
  | lst ha hall => exact ⟨_, _, rfl, ha, hall⟩
theorem Dt.tupAt {H : Hp} {v : V} {ds : List D} (h : Dt H v (.tup ds)) : ∃ (a : Addr) (xs : List V), v = .ref a ∧ H a = some (.tup xs) ∧ DtAll H xs ds := by
  cases h with
  | tup ha hall => exact ⟨_, _, rfl, ha, hall⟩
theorem Dt.intAt {H : Hp} {v : V} {i : Int} (h : Dt H v (.int i)) : v = .int i := by
  cases h
  rfl
theorem Dt.strAt {H : Hp} {v : V} {z : Str} (h : Dt H v (.str z)) : v = .str z := by
  cases h
  rfl
section
variable {σ : L2.St} {H : Hp} {K : PySem.W.Frag}
theorem mke_c {v : V} {d : D} (h : ∀ H', Dt H' v d) : MkE σ (tC v) H d := fun H1 _ _ q => q v H1 (Same.refl _) (h _)
theorem mke_var {i : Nat} {v : V} {d : D} (e : σ[i]? = some (some v)) (h : Dt H v d) : MkE σ (tVar i) H d := fun H1 s _ q => ⟨v, e, q v H1 (Same.refl _) (h.same s)⟩
theorem mkea_nil : MkEA σ tNil H [] := fun H1 _ _ q => q [] H1 (Same.refl _) .nil
theorem mkea_cons {t : TE} {u : TA} {d : D} {ds : List D} (h1 : MkE σ t H d) (h2 : MkEA σ u H ds) : MkEA σ (tCons t u) H (d :: ds) := fun H1 s Q q => by
  refine h1 H1 s _ fun v H2 s2 d2 => ?_
  refine h2 H2 (s.trans s2) _ fun vs H3 s3 d3 => ?_
  exact q (v :: vs) H3 (s2.trans s3) (.cons (d2.same s3) d3)
theorem mke_tup {u : TA} {ds : List D} (h : MkEA σ u H ds) (hz : Nat.ble ds.length 1000 = true := by rfl) : MkE σ (tTup u) H (.tup ds) := fun H1 s Q q => by
  refine h H1 s _ fun vs H2 s2 d2 => ?_
  refine ⟨sz_lit (by rw [d2.length]; exact Nat.le_of_ble_eq_true hz), fun p hp => ?_⟩
  exact q (.ref p) _ (s2.trans (Same.upd hp)) (.tup upd_same (d2.same (Same.upd hp)))
theorem mke_lst {u : TA} {ds : List D} (h : MkEA σ u H ds) (hz : Nat.ble ds.length 1000 = true := by rfl) : MkE σ (tLst u) H (.lst ds) := fun H1 s Q q => by
  refine h H1 s _ fun vs H2 s2 d2 => ?_
  refine ⟨sz_lit (by rw [d2.length]; exact Nat.le_of_ble_eq_true hz), fun p hp => ?_⟩
  exact q (.ref p) _ (s2.trans (Same.upd hp)) (.lst upd_same (d2.same (Same.upd hp)))
theorem mke_dnew : MkE σ tDNewK H .dct := fun H1 s Q q p hp => q (.ref p) _ (Same.upd hp) (.dct upd_same)
theorem mke_neg {i : Int} : MkE σ (tUn (rU fun i => .int (-i)) (tC (.int i))) H (.int (-i)) := fun H1 _ _ q => ⟨i, rfl, q _ H1 (Same.refl _) (.int _)⟩
theorem mke_cat {t u : TE} {ds es : List D} (h1 : MkE σ t H (.lst ds)) (h2 : MkE σ u H (.lst es)) (hz : ds.length + es.length ≤ 1000) : MkE σ (tOp rCat t u) H (.lst (ds ++ es)) := fun H1 s Q q => by
  refine h1 H1 s _ fun v H2 s2 d2 => ?_
  refine h2 H2 (s.trans s2) _ fun v3 H3 s3 d3 => ?_
  obtain ⟨a, xs, rfl, ha, hall⟩ := d2.lstAt
  obtain ⟨b, ys, rfl, hb, hbll⟩ := d3.lstAt
  refine ⟨a, b, xs, ys, rfl, rfl, s3 _ _ ha, hb, sz_lit (by rw [hall.length, hbll.length]; exact hz), fun p hp => ?_⟩
  exact q (.ref p) _ ((s2.trans s3).trans (Same.upd hp)) (.lst upd_same (((hall.same s3).app hbll).same (Same.upd hp)))
theorem mke_rep {t u : TE} {ds : List D} {n : Nat} (h1 : MkE σ t H (.lst ds)) (h2 : MkE σ u H (.int (n : Nat))) (hn : n ≤ 1000) (hz : ds.length * n ≤ 1000) : MkE σ (tOp rRep t u) H (.lst (List.replicate n ds).flatten) := fun H1 s Q q => by
  refine h1 H1 s _ fun v H2 s2 d2 => ?_
  refine h2 H2 (s.trans s2) _ fun v3 H3 s3 d3 => ?_
  obtain ⟨a, xs, rfl, ha, hall⟩ := d2.lstAt
  have := d3.intAt
  subst this
  refine ⟨a, (n : Nat), xs, rfl, rfl, s3 _ _ ha, by omega, by omega, sz_lit (by rw [hall.length]; exact hz), fun p hp => ?_⟩
  exact q (.ref p) _ ((s2.trans s3).trans (Same.upd hp)) (.lst upd_same (((hall.same s3).rep n).same (Same.upd hp)))
theorem mke_len {t : TE} {ds : List D} (h : MkE σ t H (.lst ds)) : MkE σ (tCB (rLen K) (tCons t tNil)) H (.int (ds.length : Nat)) := fun H1 s Q q => by
  refine h H1 s _ fun v H2 s2 d2 => ?_
  obtain ⟨a, xs, rfl, ha, hall⟩ := d2.lstAt
  refine ⟨a, xs, rfl, .inl (SqL.of ha), ?_⟩
  rw [hall.length]
  exact q _ H2 s2 (.int _)
theorem mke_tupof {t : TE} {ds : List D} (h : MkE σ t H (.lst ds)) : MkE σ (tCB (rTupOf K) (tCons t tNil)) H (.tup ds) := fun H1 s Q q => by
  refine h H1 s _ fun v H2 s2 d2 => ?_
  obtain ⟨a, xs, rfl, ha, hall⟩ := d2.lstAt
  exact ⟨a, xs, rfl, .inl ⟨SqL.of ha, fun r hr => q (.ref r) _ (s2.trans (Same.upd hr)) (.tup upd_same (hall.same (Same.upd hr)))⟩⟩
theorem mke_lstof {t : TE} {ds : List D} (h : MkE σ t H (.lst ds)) : MkE σ (tCB (rListOf K) (tCons t tNil)) H (.lst ds) := fun H1 s Q q => by
  refine h H1 s _ fun v H2 s2 d2 => ?_
  obtain ⟨a, xs, rfl, ha, hall⟩ := d2.lstAt
  exact ⟨a, xs, rfl, .inl (SqL.of ha), fun r hr => q (.ref r) _ (s2.trans (Same.upd hr)) (.lst upd_same (hall.same (Same.upd hr)))⟩
theorem mke_from {t : TE} {ds : List D} {i : Int} {n : Nat} (h : MkE σ t H (.lst ds)) (hi : i = (n : Nat) := by rfl) : MkE σ (tSl (rSlL K) t (tPart (tC (.int i))) tNoPart) H (.lst (ds.drop n)) := fun H1 s Q q => by
  subst hi
  refine h H1 s _ fun v H2 s2 d2 => ?_
  obtain ⟨a, xs, rfl, ha, hall⟩ := d2.lstAt
  refine ⟨_, rfl, a, xs, rfl, SqL.of ha, fun p hp => ?_⟩
  rw [cutV_from]
  exact q (.ref p) _ (s2.trans (Same.upd hp)) (.lst upd_same ((hall.drop n).same (Same.upd hp)))
theorem mke_upto {t : TE} {ds : List D} {i : Int} {n : Nat} (h : MkE σ t H (.lst ds)) (hi : i = (n : Nat) := by rfl) : MkE σ (tSl (rSlL K) t tNoPart (tPart (tC (.int i)))) H (.lst (ds.take n)) := fun H1 s Q q => by
  subst hi
  refine h H1 s _ fun v H2 s2 d2 => ?_
  obtain ⟨a, xs, rfl, ha, hall⟩ := d2.lstAt
  refine ⟨_, rfl, a, xs, rfl, SqL.of ha, fun p hp => ?_⟩
  rw [cutV_pre]
  exact q (.ref p) _ (s2.trans (Same.upd hp)) (.lst upd_same ((hall.take n).same (Same.upd hp)))
theorem mke_init {t : TE} {ds : List D} (h : MkE σ t H (.lst ds)) : MkE σ (tSl (rSlL K) t tNoPart (tPart (tUn (rU fun i => .int (-i)) (tC (.int 1))))) H (.lst (ds.take (ds.length - 1))) := fun H1 s Q q => by
  refine h H1 s _ fun v H2 s2 d2 => ?_
  obtain ⟨a, xs, rfl, ha, hall⟩ := d2.lstAt
  refine ⟨_, rfl, _, rfl, a, xs, rfl, SqL.of ha, fun p hp => ?_⟩
  rw [show (-(1 : Int)) = -1 from rfl, cutV_init, hall.length]
  exact q (.ref p) _ (s2.trans (Same.upd hp)) (.lst upd_same ((hall.take _).same (Same.upd hp)))
theorem mke_ix {t u : TE} {ds : List D} {n : Nat} {d : D} (h : MkE σ t H (.lst ds)) (h2 : MkE σ u H (.int (n : Nat))) (hd : ds[n]? = some d) : MkE σ (tOp (rIxL K) t u) H d := fun H1 s Q q => by
  refine h H1 s _ fun v H2 s2 d2 => ?_
  refine h2 H2 (s.trans s2) _ fun v3 H3 s3 d3 => ?_
  obtain ⟨a, xs, rfl, ha, hall⟩ := d2.lstAt
  have := d3.intAt
  subst this
  obtain ⟨v, hv, dv⟩ := hall.atN hd
  exact ⟨a, xs, _, v, rfl, rfl, SqL.of (s3 _ _ ha), atI_nat hv, q v H3 (s2.trans s3) (dv.same s3)⟩
theorem at_end {α : Type} {xs : List α} {v : α} (h : xs[xs.length - 1]? = some v) : atI xs (-1) = some v := by
  have hl : 0 < xs.length := by
    cases xs with
    | nil => simp at h
    | cons _ _ => simp
  unfold atI ixN
  rw [if_neg (by decide), if_pos (by omega)]
  show xs[(-1 + (xs.length : Int)).toNat]? = some v
  rw [show (-1 + (xs.length : Int)).toNat = xs.length - 1 by omega]
  exact h
theorem mke_last {t : TE} {ds : List D} {d : D} (h : MkE σ t H (.lst ds)) (hd : ds[ds.length - 1]? = some d) : MkE σ (tOp (rIxL K) t (tUn (rU fun i => .int (-i)) (tC (.int 1)))) H d := fun H1 s Q q => by
  refine h H1 s _ fun v H2 s2 d2 => ?_
  obtain ⟨a, xs, rfl, ha, hall⟩ := d2.lstAt
  obtain ⟨v, hv, dv⟩ := hall.atN hd
  exact ⟨_, rfl, a, xs, _, v, rfl, rfl, SqL.of ha, at_end (by rw [hall.length]; exact hv), q v H2 s2 dv⟩
theorem mke_add {t u : TE} {i j : Int} (h1 : MkE σ t H (.int i)) (h2 : MkE σ u H (.int j)) : MkE σ (tOp (rI0 fun i j => .int (i + j)) t u) H (.int (i + j)) := fun H1 s Q q => by
  refine h1 H1 s _ fun v H2 s2 d2 => ?_
  refine h2 H2 (s.trans s2) _ fun v3 H3 s3 d3 => ?_
  have := d2.intAt
  subst this
  have := d3.intAt
  subst this
  exact ⟨_, _, rfl, rfl, q _ H3 (s2.trans s3) (.int _)⟩
theorem mke_sub {t u : TE} {i j : Int} (h1 : MkE σ t H (.int i)) (h2 : MkE σ u H (.int j)) : MkE σ (tOp (rI0 fun i j => .int (i - j)) t u) H (.int (i - j)) := fun H1 s Q q => by
  refine h1 H1 s _ fun v H2 s2 d2 => ?_
  refine h2 H2 (s.trans s2) _ fun v3 H3 s3 d3 => ?_
  have := d2.intAt
  subst this
  have := d3.intAt
  subst this
  exact ⟨_, _, rfl, rfl, q _ H3 (s2.trans s3) (.int _)⟩
theorem mke_mul {t u : TE} {i j : Int} (h1 : MkE σ t H (.int i)) (h2 : MkE σ u H (.int j)) (h : CMul i j) : MkE σ (tOp (rI CMul fun i j => .int (i * j)) t u) H (.int (i * j)) := fun H1 s Q q => by
  refine h1 H1 s _ fun v H2 s2 d2 => ?_
  refine h2 H2 (s.trans s2) _ fun v3 H3 s3 d3 => ?_
  have := d2.intAt
  subst this
  have := d3.intAt
  subst this
  exact ⟨_, _, rfl, rfl, h, q _ H3 (s2.trans s3) (.int _)⟩
theorem mke_mod {t u : TE} {i j : Int} (h1 : MkE σ t H (.int i)) (h2 : MkE σ u H (.int j)) (h : 0 < j) : MkE σ (tOp (rI (fun _ j => 0 < j) fun i j => .int (i % j)) t u) H (.int (i % j)) := fun H1 s Q q => by
  refine h1 H1 s _ fun v H2 s2 d2 => ?_
  refine h2 H2 (s.trans s2) _ fun v3 H3 s3 d3 => ?_
  have := d2.intAt
  subst this
  have := d3.intAt
  subst this
  exact ⟨_, _, rfl, rfl, h, q _ H3 (s2.trans s3) (.int _)⟩
theorem mke_min2 {t u : TE} {i j : Int} (h1 : MkE σ t H (.int i)) (h2 : MkE σ u H (.int j)) : MkE σ (tCB (fun xs H Q => ∃ i j, xs = [.int i, .int j] ∧ Q (.int (if j < i then j else i)) H) (tCons t (tCons u tNil))) H (.int (if j < i then j else i)) := fun H1 s Q q => by
  refine h1 H1 s _ fun v H2 s2 d2 => ?_
  refine h2 H2 (s.trans s2) _ fun v3 H3 s3 d3 => ?_
  have := d2.intAt
  subst this
  have := d3.intAt
  subst this
  exact ⟨_, _, rfl, q _ H3 (s2.trans s3) (.int _)⟩
theorem mke_pow {i j : Int} (h : CPow i j) : MkE σ (tOp (rI CPow fun i j => .int (i ^ j.toNat)) (tC (.int i)) (tC (.int j))) H (.int (i ^ j.toNat)) := fun H1 _ _ q => ⟨_, _, rfl, rfl, h, q _ H1 (Same.refl _) (.int _)⟩
theorem mke_eq {t : TE} {d e : D} (h : MkE σ t H d) (he : d = e) : MkE σ t H e := he ▸ h
theorem MkE.go {t : TE} {d : D} (h : MkE σ t H d) {Q : VK} (q : ∀ v H2, Same H H2 → Dt H2 v d → Q v H2) : t σ H Q := h H (Same.refl H) Q q
theorem MkEA.go {t : TA} {ds : List D} (h : MkEA σ t H ds) {Q : List V → Hp → Prop} (q : ∀ vs H2, Same H H2 → DtAll H2 vs ds → Q vs H2) : t σ H Q := h H (Same.refl H) Q q
theorem s_op2 {r : R2} {ta tb : TE} {Q : VK} (h : ta σ H fun x H1 => tb σ H1 fun y H2 => r x y H2 Q) : tOp r ta tb σ H Q := h
end
end Dear

namespace Dear
open PySem PySem.Spec PyProof.Rows L2
/-! ### a builtin's method, K named (for comprehensions) -/
theorem pe_bm_k {X : Cx} (K : PySem.W.Frag) {o e : Expr} {es : List Expr} {to : TE} {t : TA} {name : Str} {apos cpos : Pos} {T id : String} {r : V → List V → Hp → VK → Prop} (pa : PlainAttrs T) (slot : Slot T name id) (hty : typeOf (.builtin id) = pure (.type "method_descriptor")) (hm : MtR X id r) (ho : PE X o to) (ha : PA X (e :: es) t) (h : X.K = K := by rfl)
    (hbase : attributeBase o name X.env (eval o X.env) = eval o X.env := by rfl)
    (hfew : ((backTo cpos (starEach (e :: es) X.env)).all (fun x => !x.1) && (backToKw cpos (keywordEach [] X.env)).all (fun x => x.1.isSome)
      && decide ((e :: es).length + ([] : List Keyword).length + (if ([] : List Keyword).isEmpty then 0 else 1) < 30)) = true := by rfl)
    (hline : (apos.endLine == cpos.line) = true := by rfl) (hs : starEach (e :: es) X.env = (false, eval e X.env) :: starEach es X.env := by rfl) (hplain : (backTo cpos (starEach es X.env)).any (·.1) = false := by rfl) :
    PE X (.Call (.Attribute o name apos) (e :: es) [] cpos) (tBM K T r to t) := h ▸ pe_bm pa slot hty hm ho ha hbase hfew hline hs hplain
end Dear

namespace Dear
open PySem PySem.Spec PyProof.Rows L2
section
variable {K : PySem.W.Frag} {H : Hp} {Q : VK}
theorem neS {x y : V} {d : D} (h1 : Dt H x d) (h2 : Dt H y d) (f : Ok d ∧ NoD d ∧ dep d ≤ 64) (q : Q (.bl false) H) : rNeD K x y H Q := by
  have sh := shaped_py f.1 f.2.1 f.2.2
  refine ⟨py d, py d, h1.dp f.2.1, h2.dp f.2.1, sh, sh, ?_⟩
  rw [eqv_same sh]
  exact q
theorem eqS {x y : V} {d : D} (h1 : Dt H x d) (h2 : Dt H y d) (f : Ok d ∧ NoD d ∧ dep d ≤ 64) (q : Q (.bl true) H) : rEqD K x y H Q := by
  have sh := shaped_py f.1 f.2.1 f.2.2
  refine ⟨py d, py d, h1.dp f.2.1, h2.dp f.2.1, sh, sh, ?_⟩
  rw [eqv_same sh]
  exact q
end
end Dear

namespace Dear
open PySem PySem.Spec PyProof.Rows L2
theorem len_sub {α : Type} [DecidableEq α] : ∀ {l m : List α}, l.Nodup → (∀ a ∈ l, a ∈ m) → l.length ≤ m.length
  | [], _, _, _ => Nat.zero_le _
  | a :: l, m, nd, h => by
    have ha := h a List.mem_cons_self
    have nd' := List.nodup_cons.mp nd
    have := len_sub (l := l) (m := m.erase a) nd'.2 fun b hb => by
      have ne : b ≠ a := fun e => nd'.1 (by rw [← e]; exact hb)
      exact (List.mem_erase_of_ne ne).mpr (h b (List.mem_cons_of_mem _ hb))
    rw [List.length_erase_of_mem ha] at this
    have hp : 0 < m.length := List.length_pos_of_mem ha
    rw [List.length_cons]
    omega
theorem len_prod {α β γ : Type} {f : α → β → γ} : ∀ {l : List α} {m : List β}, (l.flatMap fun a => m.map (f a)).length = l.length * m.length
  | [], m => by simp
  | a :: l, m => by
    rw [List.flatMap_cons, List.length_append, len_prod, List.length_map, List.length_cons, Nat.succ_mul, Nat.add_comm]
theorem TgD.fs6 {d : D} {ds : List D} {cs fs : List Nat} {zs : List Str} {i : Int} (t : TgD d ds cs fs zs i) : fs.length ≤ 6 := Nat.le_trans (len_sub t.fn t.fo) t.l6
theorem TgD.zs36 {d : D} {ds : List D} {cs fs : List Nat} {zs : List Str} {i : Int} (t : TgD d ds cs fs zs i) : zs.length ≤ 36 := by
  have h := len_sub (m := cs.flatMap fun a => cs.map fun b => sgn a ++ sgn b) t.po.nd fun z hz => by
    obtain ⟨a, ha, b, hb, rfl⟩ := t.po.of z hz
    exact List.mem_flatMap.mpr ⟨a, ha, List.mem_map_of_mem hb⟩
  rw [len_prod] at h
  have := Nat.mul_le_mul t.l6 t.l6
  omega
end Dear

namespace Dear
open PySem PySem.Spec PyProof.Rows L2
def top (i : Nat) : Stmt := PySem.Challenge.pw_dearsigns_k59_factors.main.body.getD i (.Pass ⟨0, 0, 0, 0⟩)
abbrev s_NoTongue___init__ : Stmt := inClass (top 11) 0
abbrev s_NoWants___init__ : Stmt := inClass (top 12) 0
abbrev s_NoThing___init__ : Stmt := inClass (top 13) 0
abbrev s_BadSign___init__ : Stmt := inClass (top 14) 0
abbrev s_NoText___init__ : Stmt := inClass (top 15) 0
abbrev s_is_whole : Stmt := top 19
abbrev s_is_name : Stmt := top 20
abbrev s_divisor : Stmt := top 21
abbrev s_is_fraction : Stmt := top 22
abbrev s_lowest : Stmt := top 23
abbrev s_times : Stmt := top 24
abbrev s_is_price : Stmt := top 30
abbrev s_is_letter : Stmt := top 31
abbrev s_is_sign : Stmt := top 32
abbrev s_are_signs : Stmt := top 33
abbrev s_are_unlike_texts : Stmt := top 34
abbrev s_look_at_tongue : Stmt := top 35
abbrev s_is_want : Stmt := top 39
abbrev s_look_at_wants : Stmt := top 40
abbrev s_dearer : Stmt := top 44
abbrev s_more_often : Stmt := top 45
abbrev s__law_cell : Stmt := top 47
abbrev s__law_draws : Stmt := top 48
abbrev s__law_low : Stmt := top 49
abbrev s__law_letters : Stmt := top 50
abbrev s__law_sign : Stmt := top 51
abbrev s__law_tongue : Stmt := top 52
abbrev s__law_wants : Stmt := top 57
abbrev s__law_is_no_turn : Stmt := top 58
abbrev s__law_copy : Stmt := top 59
abbrev s__law_times : Stmt := top 60
abbrev s__law_dearer : Stmt := top 61
abbrev s__law_refused : Stmt := top 62
abbrev s__law_no_tongue : Stmt := top 63
abbrev s__law_no_wants : Stmt := top 64
abbrev s__law_much : Stmt := top 65
abbrev s__law_counts_right : Stmt := top 66
abbrev s_law : Stmt := top 67
abbrev n_NoTongue___init__ : List Str := ["self", "part"]
theorem c_NoTongue___init__ : FnScope n_NoTongue___init__ ["self", "part"] (defScope s_NoTongue___init__) := ⟨rfl, rfl, rfl, by decide +kernel, rfl, by decide +kernel, by decide +kernel⟩
abbrev n_NoWants___init__ : List Str := ["self", "number"]
theorem c_NoWants___init__ : FnScope n_NoWants___init__ ["self", "number"] (defScope s_NoWants___init__) := ⟨rfl, rfl, rfl, by decide +kernel, rfl, by decide +kernel, by decide +kernel⟩
abbrev n_NoThing___init__ : List Str := ["self", "place"]
theorem c_NoThing___init__ : FnScope n_NoThing___init__ ["self", "place"] (defScope s_NoThing___init__) := ⟨rfl, rfl, rfl, by decide +kernel, rfl, by decide +kernel, by decide +kernel⟩
abbrev n_BadSign___init__ : List Str := ["self", "place"]
theorem c_BadSign___init__ : FnScope n_BadSign___init__ ["self", "place"] (defScope s_BadSign___init__) := ⟨rfl, rfl, rfl, by decide +kernel, rfl, by decide +kernel, by decide +kernel⟩
abbrev n_NoText___init__ : List Str := ["self", "row"]
theorem c_NoText___init__ : FnScope n_NoText___init__ ["self", "row"] (defScope s_NoText___init__) := ⟨rfl, rfl, rfl, by decide +kernel, rfl, by decide +kernel, by decide +kernel⟩
abbrev n_is_whole : List Str := ["thing"]
theorem c_is_whole : FnScope n_is_whole ["thing"] (defScope s_is_whole) := ⟨rfl, rfl, rfl, by decide +kernel, rfl, by decide +kernel, by decide +kernel⟩
abbrev n_is_name : List Str := ["thing", "sign"]
theorem c_is_name : FnScope n_is_name ["thing"] (defScope s_is_name) := ⟨rfl, rfl, rfl, by decide +kernel, rfl, by decide +kernel, by decide +kernel⟩
abbrev n_divisor : List Str := ["one", "other"]
theorem c_divisor : FnScope n_divisor ["one", "other"] (defScope s_divisor) := ⟨rfl, rfl, rfl, by decide +kernel, rfl, by decide +kernel, by decide +kernel⟩
abbrev n_is_fraction : List Str := ["thing", "top", "bottom"]
theorem c_is_fraction : FnScope n_is_fraction ["thing"] (defScope s_is_fraction) := ⟨rfl, rfl, rfl, by decide +kernel, rfl, by decide +kernel, by decide +kernel⟩
abbrev n_lowest : List Str := ["top", "bottom", "share"]
theorem c_lowest : FnScope n_lowest ["top", "bottom"] (defScope s_lowest) := ⟨rfl, rfl, rfl, by decide +kernel, rfl, by decide +kernel, by decide +kernel⟩
abbrev n_times : List Str := ["one", "other"]
theorem c_times : FnScope n_times ["one", "other"] (defScope s_times) := ⟨rfl, rfl, rfl, by decide +kernel, rfl, by decide +kernel, by decide +kernel⟩
abbrev n_is_price : List Str := ["thing"]
theorem c_is_price : FnScope n_is_price ["thing"] (defScope s_is_price) := ⟨rfl, rfl, rfl, by decide +kernel, rfl, by decide +kernel, by decide +kernel⟩
abbrev n_is_letter : List Str := ["thing"]
theorem c_is_letter : FnScope n_is_letter ["thing"] (defScope s_is_letter) := ⟨rfl, rfl, rfl, by decide +kernel, rfl, by decide +kernel, by decide +kernel⟩
abbrev n_is_sign : List Str := ["thing", "sign", "price", "last"]
theorem c_is_sign : FnScope n_is_sign ["thing"] (defScope s_is_sign) := ⟨rfl, rfl, rfl, by decide +kernel, rfl, by decide +kernel, by decide +kernel⟩
abbrev n_are_signs : List Str := ["thing", "one"]
theorem c_are_signs : FnScope n_are_signs ["thing"] (defScope s_are_signs) := ⟨rfl, rfl, rfl, by decide +kernel, rfl, by decide +kernel, by decide +kernel⟩
abbrev n_are_unlike_texts : List Str := ["thing", "size", "letters", "at", "one", "sign"]
theorem c_are_unlike_texts : FnScope n_are_unlike_texts ["thing", "size", "letters"] (defScope s_are_unlike_texts) := ⟨rfl, rfl, rfl, by decide +kernel, rfl, by decide +kernel, by decide +kernel⟩
abbrev n_look_at_tongue : List Str := ["thing", "signs", "firsts", "pairs", "longest", "letters", "one"]
theorem c_look_at_tongue : FnScope n_look_at_tongue ["thing"] (defScope s_look_at_tongue) := ⟨rfl, rfl, rfl, by decide +kernel, rfl, by decide +kernel, by decide +kernel⟩
abbrev n_is_want : List Str := ["thing"]
theorem c_is_want : FnScope n_is_want ["thing"] (defScope s_is_want) := ⟨rfl, rfl, rfl, by decide +kernel, rfl, by decide +kernel, by decide +kernel⟩
abbrev n_look_at_wants : List Str := ["thing", "names", "number", "want"]
theorem c_look_at_wants : FnScope n_look_at_wants ["thing"] (defScope s_look_at_wants) := ⟨rfl, rfl, rfl, by decide +kernel, rfl, by decide +kernel, by decide +kernel⟩
abbrev n_dearer : List Str := ["tongue", "factor", "signs", "firsts", "pairs", "longest", "rows", "sign", "price", "last"]
theorem c_dearer : FnScope n_dearer ["tongue", "factor"] (defScope s_dearer) := ⟨rfl, rfl, rfl, by decide +kernel, rfl, by decide +kernel, by decide +kernel⟩
abbrev n_more_often : List Str := ["wants", "factor", "name", "count"]
theorem c_more_often : FnScope n_more_often ["wants", "factor"] (defScope s_more_often) := ⟨rfl, rfl, rfl, by decide +kernel, rfl, by decide +kernel, by decide +kernel⟩
abbrev n__law_cell : List Str := ["_law_script", "_law_k"]
theorem c__law_cell : FnScope n__law_cell ["_law_script", "_law_k"] (defScope s__law_cell) := ⟨rfl, rfl, rfl, by decide +kernel, rfl, by decide +kernel, by decide +kernel⟩
abbrev n__law_draws : List Str := ["_law_cell_here", "_law_k", "_law_sizes", "_law_number", "_law_great", "_law_mixed", "_law_found", "_law_turn", "_law_size"]
theorem c__law_draws : FnScope n__law_draws ["_law_cell_here", "_law_k", "_law_sizes"] (defScope s__law_draws) := ⟨rfl, rfl, rfl, by decide +kernel, rfl, by decide +kernel, by decide +kernel⟩
abbrev n__law_low : List Str := ["_law_top", "_law_bottom", "_law_one", "_law_other"]
theorem c__law_low : FnScope n__law_low ["_law_top", "_law_bottom"] (defScope s__law_low) := ⟨rfl, rfl, rfl, by decide +kernel, rfl, by decide +kernel, by decide +kernel⟩
abbrev n__law_letters : List Str := ["_law_row", "_law_many", "_law_step", "_law_k"]
theorem c__law_letters : FnScope n__law_letters ["_law_row", "_law_many"] (defScope s__law_letters) := ⟨rfl, rfl, rfl, by decide +kernel, rfl, by decide +kernel, by decide +kernel⟩
abbrev n__law_sign : List Str := ["_law_cell_here", "_law_k", "_law_letter", "_law_dear", "_law_one", "_law_price", "_law_other"]
theorem c__law_sign : FnScope n__law_sign ["_law_cell_here", "_law_k", "_law_letter", "_law_dear"] (defScope s__law_sign) := ⟨rfl, rfl, rfl, by decide +kernel, rfl, by decide +kernel, by decide +kernel⟩
abbrev n__law_tongue : List Str := ["_law_script", "_law_most", "_law_longest", "_law_row", "_law_many", "_law_letters_here", "_law_signs", "_law_k", "_law_letter", "_law_bans", "_law_firsts", "_law_pairs"]
theorem c__law_tongue : FnScope n__law_tongue ["_law_script", "_law_most", "_law_longest"] (defScope s__law_tongue) := ⟨rfl, rfl, rfl, by decide +kernel, rfl, by decide +kernel, by decide +kernel⟩
abbrev n__law_wants : List Str := ["_law_script", "_law_at", "_law_many", "_law_row", "_law_letters_here", "_law_wants_here", "_law_k", "_law_count", "_law_name"]
theorem c__law_wants : FnScope n__law_wants ["_law_script", "_law_at", "_law_many"] (defScope s__law_wants) := ⟨rfl, rfl, rfl, by decide +kernel, rfl, by decide +kernel, by decide +kernel⟩
abbrev n__law_is_no_turn : List Str := ["_law_kept", "_law_others"]
theorem c__law_is_no_turn : FnScope n__law_is_no_turn ["_law_kept"] (defScope s__law_is_no_turn) := ⟨rfl, rfl, rfl, by decide +kernel, rfl, by decide +kernel, by decide +kernel⟩
abbrev n__law_copy : List Str := ["_law_tongue_here"]
theorem c__law_copy : FnScope n__law_copy ["_law_tongue_here"] (defScope s__law_copy) := ⟨rfl, rfl, rfl, by decide +kernel, rfl, by decide +kernel, by decide +kernel⟩
abbrev n__law_times : List Str := ["_law_one", "_law_other"]
theorem c__law_times : FnScope n__law_times ["_law_one", "_law_other"] (defScope s__law_times) := ⟨rfl, rfl, rfl, by decide +kernel, rfl, by decide +kernel, by decide +kernel⟩
abbrev n__law_dearer : List Str := ["_law_tongue_here", "_law_factor", "_law_signs", "_law_sign_here", "_law_price", "_law_last"]
theorem c__law_dearer : FnScope n__law_dearer ["_law_tongue_here", "_law_factor"] (defScope s__law_dearer) := ⟨rfl, rfl, rfl, by decide +kernel, rfl, by decide +kernel, by decide +kernel⟩
abbrev n__law_refused : List Str := ["_law_tongue_here", "_law_wants_here", "_law_thing", "_law_way", "_law_kept", "e"]
theorem c__law_refused : FnScope n__law_refused ["_law_tongue_here", "_law_wants_here", "_law_thing", "_law_way"] (defScope s__law_refused) := ⟨rfl, rfl, rfl, by decide +kernel, rfl, by decide +kernel, by decide +kernel⟩
abbrev n__law_no_tongue : List Str := ["_law_tongue_here", "_law_factor", "_law_signs", "_law_firsts", "_law_pairs", "_law_longest", "_law_found", "_law_thing", "e"]
theorem c__law_no_tongue : FnScope n__law_no_tongue ["_law_tongue_here", "_law_factor"] (defScope s__law_no_tongue) := ⟨rfl, rfl, rfl, by decide +kernel, rfl, by decide +kernel, by decide +kernel⟩
abbrev n__law_no_wants : List Str := ["_law_wants_here", "_law_factor", "_law_found", "_law_thing", "e"]
theorem c__law_no_wants : FnScope n__law_no_wants ["_law_wants_here", "_law_factor"] (defScope s__law_no_wants) := ⟨rfl, rfl, rfl, by decide +kernel, rfl, by decide +kernel, by decide +kernel⟩
abbrev n__law_much : List Str := ["_law_wants_here", "_law_greatest", "_law_name", "_law_count"]
theorem c__law_much : FnScope n__law_much ["_law_wants_here"] (defScope s__law_much) := ⟨rfl, rfl, rfl, by decide +kernel, rfl, by decide +kernel, by decide +kernel⟩
abbrev n__law_counts_right : List Str := ["_law_tongue_here", "_law_wants_here", "_law_number", "_law_found", "_law_due", "_law_name", "_law_count"]
theorem c__law_counts_right : FnScope n__law_counts_right ["_law_tongue_here", "_law_wants_here", "_law_number"] (defScope s__law_counts_right) := ⟨rfl, rfl, rfl, by decide +kernel, rfl, by decide +kernel, by decide +kernel⟩
abbrev n_law : List Str := ["_law_script", "_law_tongue_here", "_law_kept", "_law_wants_here", "_law_stays", "_law_k", "_law_cell_here", "_law_row", "_law_factor", "_law_found", "_law_odd", "_law_more"]
theorem c_law : FnScope n_law ["_law_script"] (defScope s_law) := ⟨rfl, rfl, rfl, by decide +kernel, rfl, by decide +kernel, by decide +kernel⟩
structure Ads where
  DearError : Addr
  NoNumber : Addr
  NoBook : Addr
  NoTree : Addr
  TooMany : Addr
  NoCount : Addr
  NoUndo : Addr
  NoTurn : Addr
  NoRow : Addr
  Unknown : Addr
  NoTongue : Addr
  NoWants : Addr
  NoThing : Addr
  BadSign : Addr
  NoText : Addr
/-- what the top has left -/
structure Txt (K : PySem.W.Frag) (mg : Str → Option Value) where
  A : Ads
  C_DearError : mg "DearError" = some (.ref A.DearError)
  C_NoNumber : mg "NoNumber" = some (.ref A.NoNumber)
  C_NoBook : mg "NoBook" = some (.ref A.NoBook)
  C_NoTree : mg "NoTree" = some (.ref A.NoTree)
  C_TooMany : mg "TooMany" = some (.ref A.TooMany)
  C_NoCount : mg "NoCount" = some (.ref A.NoCount)
  C_NoUndo : mg "NoUndo" = some (.ref A.NoUndo)
  C_NoTurn : mg "NoTurn" = some (.ref A.NoTurn)
  C_NoRow : mg "NoRow" = some (.ref A.NoRow)
  C_Unknown : mg "Unknown" = some (.ref A.Unknown)
  C_NoTongue : mg "NoTongue" = some (.ref A.NoTongue)
  C_NoWants : mg "NoWants" = some (.ref A.NoWants)
  C_NoThing : mg "NoThing" = some (.ref A.NoThing)
  C_BadSign : mg "BadSign" = some (.ref A.BadSign)
  C_NoText : mg "NoText" = some (.ref A.NoText)
  X_NoTurn : ExOwn K mg "NoTurn" A.NoTurn
  D_DearError : DrI K mg "DearError" A.DearError
  X_NoTongue : ExInit K mg "NoTongue" "part" A.NoTongue
  F_NoTongue : DfI K A.NoTongue "NoTongue.__init__" s_NoTongue___init__ "part"
  X_NoWants : ExInit K mg "NoWants" "number" A.NoWants
  F_NoWants : DfI K A.NoWants "NoWants.__init__" s_NoWants___init__ "number"
  q_NoTongue_DearError : PySem.W.kitOne K (.ref A.NoTongue) (.ref A.DearError) = some true
  q_NoTongue_NoNumber : PySem.W.kitOne K (.ref A.NoTongue) (.ref A.NoNumber) = some false
  q_NoTongue_NoBook : PySem.W.kitOne K (.ref A.NoTongue) (.ref A.NoBook) = some false
  q_NoTongue_NoTree : PySem.W.kitOne K (.ref A.NoTongue) (.ref A.NoTree) = some false
  q_NoTongue_TooMany : PySem.W.kitOne K (.ref A.NoTongue) (.ref A.TooMany) = some false
  q_NoTongue_NoCount : PySem.W.kitOne K (.ref A.NoTongue) (.ref A.NoCount) = some false
  q_NoTongue_NoUndo : PySem.W.kitOne K (.ref A.NoTongue) (.ref A.NoUndo) = some false
  q_NoTongue_NoTurn : PySem.W.kitOne K (.ref A.NoTongue) (.ref A.NoTurn) = some false
  q_NoTongue_NoRow : PySem.W.kitOne K (.ref A.NoTongue) (.ref A.NoRow) = some false
  q_NoTongue_Unknown : PySem.W.kitOne K (.ref A.NoTongue) (.ref A.Unknown) = some false
  q_NoTongue_NoTongue : PySem.W.kitOne K (.ref A.NoTongue) (.ref A.NoTongue) = some true
  q_NoTongue_NoWants : PySem.W.kitOne K (.ref A.NoTongue) (.ref A.NoWants) = some false
  q_NoTongue_NoThing : PySem.W.kitOne K (.ref A.NoTongue) (.ref A.NoThing) = some false
  q_NoTongue_BadSign : PySem.W.kitOne K (.ref A.NoTongue) (.ref A.BadSign) = some false
  q_NoTongue_NoText : PySem.W.kitOne K (.ref A.NoTongue) (.ref A.NoText) = some false
  q_NoTongue_ValueError : PySem.W.kitOne K (.ref A.NoTongue) (.type "ValueError") = some true
  m_NoTongue : PySem.W.exmOne K (.ref A.NoTongue) (.ref A.DearError) = some true
  q_NoWants_DearError : PySem.W.kitOne K (.ref A.NoWants) (.ref A.DearError) = some true
  q_NoWants_NoNumber : PySem.W.kitOne K (.ref A.NoWants) (.ref A.NoNumber) = some false
  q_NoWants_NoBook : PySem.W.kitOne K (.ref A.NoWants) (.ref A.NoBook) = some false
  q_NoWants_NoTree : PySem.W.kitOne K (.ref A.NoWants) (.ref A.NoTree) = some false
  q_NoWants_TooMany : PySem.W.kitOne K (.ref A.NoWants) (.ref A.TooMany) = some false
  q_NoWants_NoCount : PySem.W.kitOne K (.ref A.NoWants) (.ref A.NoCount) = some false
  q_NoWants_NoUndo : PySem.W.kitOne K (.ref A.NoWants) (.ref A.NoUndo) = some false
  q_NoWants_NoTurn : PySem.W.kitOne K (.ref A.NoWants) (.ref A.NoTurn) = some false
  q_NoWants_NoRow : PySem.W.kitOne K (.ref A.NoWants) (.ref A.NoRow) = some false
  q_NoWants_Unknown : PySem.W.kitOne K (.ref A.NoWants) (.ref A.Unknown) = some false
  q_NoWants_NoTongue : PySem.W.kitOne K (.ref A.NoWants) (.ref A.NoTongue) = some false
  q_NoWants_NoWants : PySem.W.kitOne K (.ref A.NoWants) (.ref A.NoWants) = some true
  q_NoWants_NoThing : PySem.W.kitOne K (.ref A.NoWants) (.ref A.NoThing) = some false
  q_NoWants_BadSign : PySem.W.kitOne K (.ref A.NoWants) (.ref A.BadSign) = some false
  q_NoWants_NoText : PySem.W.kitOne K (.ref A.NoWants) (.ref A.NoText) = some false
  q_NoWants_ValueError : PySem.W.kitOne K (.ref A.NoWants) (.type "ValueError") = some true
  m_NoWants : PySem.W.exmOne K (.ref A.NoWants) (.ref A.DearError) = some true
  q_NoTurn_DearError : PySem.W.kitOne K (.ref A.NoTurn) (.ref A.DearError) = some true
  q_NoTurn_NoNumber : PySem.W.kitOne K (.ref A.NoTurn) (.ref A.NoNumber) = some false
  q_NoTurn_NoBook : PySem.W.kitOne K (.ref A.NoTurn) (.ref A.NoBook) = some false
  q_NoTurn_NoTree : PySem.W.kitOne K (.ref A.NoTurn) (.ref A.NoTree) = some false
  q_NoTurn_TooMany : PySem.W.kitOne K (.ref A.NoTurn) (.ref A.TooMany) = some false
  q_NoTurn_NoCount : PySem.W.kitOne K (.ref A.NoTurn) (.ref A.NoCount) = some false
  q_NoTurn_NoUndo : PySem.W.kitOne K (.ref A.NoTurn) (.ref A.NoUndo) = some false
  q_NoTurn_NoTurn : PySem.W.kitOne K (.ref A.NoTurn) (.ref A.NoTurn) = some true
  q_NoTurn_NoRow : PySem.W.kitOne K (.ref A.NoTurn) (.ref A.NoRow) = some false
  q_NoTurn_Unknown : PySem.W.kitOne K (.ref A.NoTurn) (.ref A.Unknown) = some false
  q_NoTurn_NoTongue : PySem.W.kitOne K (.ref A.NoTurn) (.ref A.NoTongue) = some false
  q_NoTurn_NoWants : PySem.W.kitOne K (.ref A.NoTurn) (.ref A.NoWants) = some false
  q_NoTurn_NoThing : PySem.W.kitOne K (.ref A.NoTurn) (.ref A.NoThing) = some false
  q_NoTurn_BadSign : PySem.W.kitOne K (.ref A.NoTurn) (.ref A.BadSign) = some false
  q_NoTurn_NoText : PySem.W.kitOne K (.ref A.NoTurn) (.ref A.NoText) = some false
  q_NoTurn_ValueError : PySem.W.kitOne K (.ref A.NoTurn) (.type "ValueError") = some true
  m_NoTurn : PySem.W.exmOne K (.ref A.NoTurn) (.ref A.DearError) = some true
  e_NoTongue : PySem.W.exmOne K (.ref A.NoTongue) (.ref A.NoTongue) = some true
  e_NoWants : PySem.W.exmOne K (.ref A.NoWants) (.ref A.NoWants) = some true
  f_is_whole : Df K mg "is_whole" s_is_whole ["thing"]
  f_is_name : Df K mg "is_name" s_is_name ["thing"]
  f_divisor : Df K mg "divisor" s_divisor ["one", "other"]
  f_is_fraction : Df K mg "is_fraction" s_is_fraction ["thing"]
  f_lowest : Df K mg "lowest" s_lowest ["top", "bottom"]
  f_times : Df K mg "times" s_times ["one", "other"]
  f_is_price : Df K mg "is_price" s_is_price ["thing"]
  f_is_letter : Df K mg "is_letter" s_is_letter ["thing"]
  f_is_sign : Df K mg "is_sign" s_is_sign ["thing"]
  f_are_signs : Df K mg "are_signs" s_are_signs ["thing"]
  f_are_unlike_texts : Df K mg "are_unlike_texts" s_are_unlike_texts ["thing", "size", "letters"]
  f_look_at_tongue : Df K mg "look_at_tongue" s_look_at_tongue ["thing"]
  f_is_want : Df K mg "is_want" s_is_want ["thing"]
  f_look_at_wants : Df K mg "look_at_wants" s_look_at_wants ["thing"]
  f_dearer : Df K mg "dearer" s_dearer ["tongue", "factor"]
  f_more_often : Df K mg "more_often" s_more_often ["wants", "factor"]
  f__law_cell : Df K mg "_law_cell" s__law_cell ["_law_script", "_law_k"]
  f__law_draws : Df K mg "_law_draws" s__law_draws ["_law_cell_here", "_law_k", "_law_sizes"]
  f__law_low : Df K mg "_law_low" s__law_low ["_law_top", "_law_bottom"]
  f__law_letters : Df K mg "_law_letters" s__law_letters ["_law_row", "_law_many"]
  f__law_sign : Df K mg "_law_sign" s__law_sign ["_law_cell_here", "_law_k", "_law_letter", "_law_dear"]
  f__law_tongue : Df K mg "_law_tongue" s__law_tongue ["_law_script", "_law_most", "_law_longest"]
  f__law_wants : Df K mg "_law_wants" s__law_wants ["_law_script", "_law_at", "_law_many"]
  f__law_is_no_turn : Df K mg "_law_is_no_turn" s__law_is_no_turn ["_law_kept"]
  f__law_copy : Df K mg "_law_copy" s__law_copy ["_law_tongue_here"]
  f__law_times : Df K mg "_law_times" s__law_times ["_law_one", "_law_other"]
  f__law_dearer : Df K mg "_law_dearer" s__law_dearer ["_law_tongue_here", "_law_factor"]
  f__law_refused : Df K mg "_law_refused" s__law_refused ["_law_tongue_here", "_law_wants_here", "_law_thing", "_law_way"]
  f__law_no_tongue : Df K mg "_law_no_tongue" s__law_no_tongue ["_law_tongue_here", "_law_factor"]
  f__law_no_wants : Df K mg "_law_no_wants" s__law_no_wants ["_law_wants_here", "_law_factor"]
  f__law_much : Df K mg "_law_much" s__law_much ["_law_wants_here"]
  f__law_counts_right : Df K mg "_law_counts_right" s__law_counts_right ["_law_tongue_here", "_law_wants_here", "_law_number"]
  f_law : Df K mg "law" s_law ["_law_script"]
  g_LETTERS_numbers : ∃ t, mg "LETTERS_numbers" = some (.str "abcdefghijklmnopqrstuvwxyz" t)
  g_LONGEST_numbers : ∃ t, mg "LONGEST_numbers" = some (.int 8 t)
  g_LETTERS_tongues : ∃ t, mg "LETTERS_tongues" = some (.str "abcdefghijklmnopqrstuvwxyz" t)
  g_FEWEST_SIGNS : ∃ t, mg "FEWEST_SIGNS" = some (.int 2 t)
  g_MOST_SIGNS : ∃ t, mg "MOST_SIGNS" = some (.int 6 t)
  g_LONGEST_tongues : ∃ t, mg "LONGEST_tongues" = some (.int 8 t)
  g_MOST_THINGS : ∃ t, mg "MOST_THINGS" = some (.int 20 t)
  g_GREATEST_COUNT : ∃ t, mg "GREATEST_COUNT" = some (.int 1000000000 t)
  g_GREATEST_FACTOR : ∃ t, mg "GREATEST_FACTOR" = some (.int 1000 t)
  g_MOST_OFTEN : ∃ t, mg "MOST_OFTEN" = some (.int 1000000000 t)
  b_ValueError : mg "ValueError" = none
  b_abs : mg "abs" = none
  b_all : mg "all" = none
  b_bool : mg "bool" = none
  b_enumerate : mg "enumerate" = none
  b_int : mg "int" = none
  b_isinstance : mg "isinstance" = none
  b_len : mg "len" = none
  b_list : mg "list" = none
  b_max : mg "max" = none
  b_range : mg "range" = none
  b_set : mg "set" = none
  b_str : mg "str" = none
  b_tuple : mg "tuple" = none
def txt_mk {K : PySem.W.Frag} {h : Heap} {mg : Str → Option Value} (X : K.In h) (G : h.Ns mainGlobals mg)
    {C_DearError : Addr} {C_NoNumber : Addr} {C_NoBook : Addr} {C_NoTree : Addr} {C_TooMany : Addr} {C_NoCount : Addr} {C_NoUndo : Addr} {C_NoTurn : Addr} {C_NoRow : Addr} {C_Unknown : Addr} {C_NoTongue : Addr} {C_NoWants : Addr} {C_NoThing : Addr} {C_BadSign : Addr} {C_NoText : Addr} 
    {nm_NoTongue qn_NoTongue : Str} {N_NoTongue I_NoTongue : Addr} {bs_NoTongue sb_NoTongue : List Value} {sn_NoTongue : List Str} {ab_NoTongue : Bool} {col_NoTongue : Option Bool} {dd_NoTongue odI_NoTongue anI_NoTongue : Option Addr} {m0_NoTongue m1_NoTongue m2_NoTongue m3_NoTongue m5_NoTongue : Option Value} {slI_NoTongue : Array (Option Value)} {ocI_NoTongue kVI_NoTongue dcI_NoTongue pmI_NoTongue cdI_NoTongue ctI_NoTongue : Value}
    {nm_NoWants qn_NoWants : Str} {N_NoWants I_NoWants : Addr} {bs_NoWants sb_NoWants : List Value} {sn_NoWants : List Str} {ab_NoWants : Bool} {col_NoWants : Option Bool} {dd_NoWants odI_NoWants anI_NoWants : Option Addr} {m0_NoWants m1_NoWants m2_NoWants m3_NoWants m5_NoWants : Option Value} {slI_NoWants : Array (Option Value)} {ocI_NoWants kVI_NoWants dcI_NoWants pmI_NoWants cdI_NoWants ctI_NoWants : Value}
    {f1 : Addr} {od1 an1 : Option Addr} {sl1 : Array (Option Value)} {oc1 kV1 dc1 pm1 cd1 ct1 : Value}
    {f2 : Addr} {od2 an2 : Option Addr} {sl2 : Array (Option Value)} {oc2 kV2 dc2 pm2 cd2 ct2 : Value}
    {f3 : Addr} {od3 an3 : Option Addr} {sl3 : Array (Option Value)} {oc3 kV3 dc3 pm3 cd3 ct3 : Value}
    {f4 : Addr} {od4 an4 : Option Addr} {sl4 : Array (Option Value)} {oc4 kV4 dc4 pm4 cd4 ct4 : Value}
    {f5 : Addr} {od5 an5 : Option Addr} {sl5 : Array (Option Value)} {oc5 kV5 dc5 pm5 cd5 ct5 : Value}
    {f6 : Addr} {od6 an6 : Option Addr} {sl6 : Array (Option Value)} {oc6 kV6 dc6 pm6 cd6 ct6 : Value}
    {f7 : Addr} {od7 an7 : Option Addr} {sl7 : Array (Option Value)} {oc7 kV7 dc7 pm7 cd7 ct7 : Value}
    {f8 : Addr} {od8 an8 : Option Addr} {sl8 : Array (Option Value)} {oc8 kV8 dc8 pm8 cd8 ct8 : Value}
    {f9 : Addr} {od9 an9 : Option Addr} {sl9 : Array (Option Value)} {oc9 kV9 dc9 pm9 cd9 ct9 : Value}
    {f10 : Addr} {od10 an10 : Option Addr} {sl10 : Array (Option Value)} {oc10 kV10 dc10 pm10 cd10 ct10 : Value}
    {f11 : Addr} {od11 an11 : Option Addr} {sl11 : Array (Option Value)} {oc11 kV11 dc11 pm11 cd11 ct11 : Value}
    {f12 : Addr} {od12 an12 : Option Addr} {sl12 : Array (Option Value)} {oc12 kV12 dc12 pm12 cd12 ct12 : Value}
    {f13 : Addr} {od13 an13 : Option Addr} {sl13 : Array (Option Value)} {oc13 kV13 dc13 pm13 cd13 ct13 : Value}
    {f14 : Addr} {od14 an14 : Option Addr} {sl14 : Array (Option Value)} {oc14 kV14 dc14 pm14 cd14 ct14 : Value}
    {f15 : Addr} {od15 an15 : Option Addr} {sl15 : Array (Option Value)} {oc15 kV15 dc15 pm15 cd15 ct15 : Value}
    {f16 : Addr} {od16 an16 : Option Addr} {sl16 : Array (Option Value)} {oc16 kV16 dc16 pm16 cd16 ct16 : Value}
    {f17 : Addr} {od17 an17 : Option Addr} {sl17 : Array (Option Value)} {oc17 kV17 dc17 pm17 cd17 ct17 : Value}
    {f18 : Addr} {od18 an18 : Option Addr} {sl18 : Array (Option Value)} {oc18 kV18 dc18 pm18 cd18 ct18 : Value}
    {f19 : Addr} {od19 an19 : Option Addr} {sl19 : Array (Option Value)} {oc19 kV19 dc19 pm19 cd19 ct19 : Value}
    {f20 : Addr} {od20 an20 : Option Addr} {sl20 : Array (Option Value)} {oc20 kV20 dc20 pm20 cd20 ct20 : Value}
    {f21 : Addr} {od21 an21 : Option Addr} {sl21 : Array (Option Value)} {oc21 kV21 dc21 pm21 cd21 ct21 : Value}
    {f22 : Addr} {od22 an22 : Option Addr} {sl22 : Array (Option Value)} {oc22 kV22 dc22 pm22 cd22 ct22 : Value}
    {f23 : Addr} {od23 an23 : Option Addr} {sl23 : Array (Option Value)} {oc23 kV23 dc23 pm23 cd23 ct23 : Value}
    {f24 : Addr} {od24 an24 : Option Addr} {sl24 : Array (Option Value)} {oc24 kV24 dc24 pm24 cd24 ct24 : Value}
    {f25 : Addr} {od25 an25 : Option Addr} {sl25 : Array (Option Value)} {oc25 kV25 dc25 pm25 cd25 ct25 : Value}
    {f26 : Addr} {od26 an26 : Option Addr} {sl26 : Array (Option Value)} {oc26 kV26 dc26 pm26 cd26 ct26 : Value}
    {f27 : Addr} {od27 an27 : Option Addr} {sl27 : Array (Option Value)} {oc27 kV27 dc27 pm27 cd27 ct27 : Value}
    {f28 : Addr} {od28 an28 : Option Addr} {sl28 : Array (Option Value)} {oc28 kV28 dc28 pm28 cd28 ct28 : Value}
    {f29 : Addr} {od29 an29 : Option Addr} {sl29 : Array (Option Value)} {oc29 kV29 dc29 pm29 cd29 ct29 : Value}
    {f30 : Addr} {od30 an30 : Option Addr} {sl30 : Array (Option Value)} {oc30 kV30 dc30 pm30 cd30 ct30 : Value}
    {f31 : Addr} {od31 an31 : Option Addr} {sl31 : Array (Option Value)} {oc31 kV31 dc31 pm31 cd31 ct31 : Value}
    {f32 : Addr} {od32 an32 : Option Addr} {sl32 : Array (Option Value)} {oc32 kV32 dc32 pm32 cd32 ct32 : Value}
    {f33 : Addr} {od33 an33 : Option Addr} {sl33 : Array (Option Value)} {oc33 kV33 dc33 pm33 cd33 ct33 : Value}
    {t34 : Tok}
    {t35 : Tok}
    {t36 : Tok}
    {t37 : Tok}
    {t38 : Tok}
    {t39 : Tok}
    {t40 : Tok}
    {t41 : Tok}
    {t42 : Tok}
    {t43 : Tok}
    (g_DearError : PySem.W.nsIn K mainGlobals "DearError" = some (some (.ref C_DearError)))
    (i_DearError : PySem.W.isClsIn K C_DearError = true) (t_DearError : PySem.W.typeIn K (.ref C_DearError) = some (.type "type"))
    (g_NoNumber : PySem.W.nsIn K mainGlobals "NoNumber" = some (some (.ref C_NoNumber)))
    (i_NoNumber : PySem.W.isClsIn K C_NoNumber = true) (t_NoNumber : PySem.W.typeIn K (.ref C_NoNumber) = some (.type "type"))
    (g_NoBook : PySem.W.nsIn K mainGlobals "NoBook" = some (some (.ref C_NoBook)))
    (i_NoBook : PySem.W.isClsIn K C_NoBook = true) (t_NoBook : PySem.W.typeIn K (.ref C_NoBook) = some (.type "type"))
    (g_NoTree : PySem.W.nsIn K mainGlobals "NoTree" = some (some (.ref C_NoTree)))
    (i_NoTree : PySem.W.isClsIn K C_NoTree = true) (t_NoTree : PySem.W.typeIn K (.ref C_NoTree) = some (.type "type"))
    (g_TooMany : PySem.W.nsIn K mainGlobals "TooMany" = some (some (.ref C_TooMany)))
    (i_TooMany : PySem.W.isClsIn K C_TooMany = true) (t_TooMany : PySem.W.typeIn K (.ref C_TooMany) = some (.type "type"))
    (g_NoCount : PySem.W.nsIn K mainGlobals "NoCount" = some (some (.ref C_NoCount)))
    (i_NoCount : PySem.W.isClsIn K C_NoCount = true) (t_NoCount : PySem.W.typeIn K (.ref C_NoCount) = some (.type "type"))
    (g_NoUndo : PySem.W.nsIn K mainGlobals "NoUndo" = some (some (.ref C_NoUndo)))
    (i_NoUndo : PySem.W.isClsIn K C_NoUndo = true) (t_NoUndo : PySem.W.typeIn K (.ref C_NoUndo) = some (.type "type"))
    (g_NoTurn : PySem.W.nsIn K mainGlobals "NoTurn" = some (some (.ref C_NoTurn)))
    (i_NoTurn : PySem.W.isClsIn K C_NoTurn = true) (t_NoTurn : PySem.W.typeIn K (.ref C_NoTurn) = some (.type "type"))
    (g_NoRow : PySem.W.nsIn K mainGlobals "NoRow" = some (some (.ref C_NoRow)))
    (i_NoRow : PySem.W.isClsIn K C_NoRow = true) (t_NoRow : PySem.W.typeIn K (.ref C_NoRow) = some (.type "type"))
    (g_Unknown : PySem.W.nsIn K mainGlobals "Unknown" = some (some (.ref C_Unknown)))
    (i_Unknown : PySem.W.isClsIn K C_Unknown = true) (t_Unknown : PySem.W.typeIn K (.ref C_Unknown) = some (.type "type"))
    (g_NoTongue : PySem.W.nsIn K mainGlobals "NoTongue" = some (some (.ref C_NoTongue)))
    (i_NoTongue : PySem.W.isClsIn K C_NoTongue = true) (t_NoTongue : PySem.W.typeIn K (.ref C_NoTongue) = some (.type "type"))
    (g_NoWants : PySem.W.nsIn K mainGlobals "NoWants" = some (some (.ref C_NoWants)))
    (i_NoWants : PySem.W.isClsIn K C_NoWants = true) (t_NoWants : PySem.W.typeIn K (.ref C_NoWants) = some (.type "type"))
    (g_NoThing : PySem.W.nsIn K mainGlobals "NoThing" = some (some (.ref C_NoThing)))
    (i_NoThing : PySem.W.isClsIn K C_NoThing = true) (t_NoThing : PySem.W.typeIn K (.ref C_NoThing) = some (.type "type"))
    (g_BadSign : PySem.W.nsIn K mainGlobals "BadSign" = some (some (.ref C_BadSign)))
    (i_BadSign : PySem.W.isClsIn K C_BadSign = true) (t_BadSign : PySem.W.typeIn K (.ref C_BadSign) = some (.type "type"))
    (g_NoText : PySem.W.nsIn K mainGlobals "NoText" = some (some (.ref C_NoText)))
    (i_NoText : PySem.W.isClsIn K C_NoText = true) (t_NoText : PySem.W.typeIn K (.ref C_NoText) = some (.type "type"))
    (b_DearError : PySem.W.subIn K (.ref C_DearError) (.type "BaseException") = some true)
    (x1_NoTurn : PySem.W.excIn K C_NoTurn [.type "ValueError", .type "Exception", .type "BaseException", .type "object"] "ValueError.__new__" = true)
    (x2_NoTurn : PySem.W.keepIn K (.ref C_NoTurn) = true)
    (x3_NoTurn : PySem.W.subIn K (.ref C_NoTurn) (.type "BaseException") = some true)
    (x4_NoTurn : PySem.W.typeIn K (.ref C_NoTurn) = some (.type "type"))
    (x5_NoTurn : PySem.W.findIn K (.ref C_NoTurn) "__getattribute__" = some (some (.builtin "BaseException.__getattribute__")))
    (x6_NoTurn : PySem.W.findIn K (.ref C_NoTurn) "__getattr__" = some none)
    (x7_NoTurn : PySem.W.hasDictIn K C_NoTurn = true)
    (x8_NoTurn : PySem.W.findIn K (.ref C_NoTurn) "__class__" = some (some (.builtin "object.__class__")))
    (x9_NoTurn : PySem.W.specialIn K (.builtin "object.__class__") "__get__" = some (some (.builtin "getset_descriptor.__get__")))
    (x10_NoTurn : PySem.W.takesIn K (.builtin "object.__class__") = some true)
    (x11_NoTurn : PySem.W.mroIn K C_NoTurn (.type "object") = some true)
    (d1 : PySem.W.specialIn K (.ref C_DearError) "__getattribute__" = some (some (.builtin "type.__getattribute__")))
    (d2 : PySem.W.readsIn K C_DearError (.type "type") = true)
    (d3 : PySem.W.findCls K (.ref C_DearError) (.type "type") "__init__" = some (.val (.builtin "ValueError.__init__")))
    (xl_NoTongue : K.lookup C_NoTongue = some (excClassObj nm_NoTongue qn_NoTongue C_NoTongue N_NoTongue bs_NoTongue [.ref C_DearError, .type "ValueError", .type "Exception", .type "BaseException", .type "object"] true sn_NoTongue sb_NoTongue ab_NoTongue col_NoTongue dd_NoTongue m0_NoTongue m1_NoTongue m2_NoTongue m3_NoTongue m5_NoTongue "ValueError.__new__"))
    (sa_NoTongue : PySem.W.findIn K (.ref C_NoTongue) "__setattr__" = some (some (.builtin "object.__setattr__")))
    (x2_NoTongue : PySem.W.keepIn K (.ref C_NoTongue) = true)
    (x3_NoTongue : PySem.W.subIn K (.ref C_NoTongue) (.type "BaseException") = some true)
    (x4_NoTongue : PySem.W.typeIn K (.ref C_NoTongue) = some (.type "type"))
    (x5_NoTongue : PySem.W.findIn K (.ref C_NoTongue) "__getattribute__" = some (some (.builtin "BaseException.__getattribute__")))
    (x6_NoTongue : PySem.W.findIn K (.ref C_NoTongue) "__getattr__" = some none)
    (x7_NoTongue : PySem.W.hasDictIn K C_NoTongue = true)
    (x8_NoTongue : PySem.W.findIn K (.ref C_NoTongue) "__class__" = some (some (.builtin "object.__class__")))
    (x9_NoTongue : PySem.W.specialIn K (.builtin "object.__class__") "__get__" = some (some (.builtin "getset_descriptor.__get__")))
    (x10_NoTongue : PySem.W.takesIn K (.builtin "object.__class__") = some true)
    (x11_NoTongue : PySem.W.mroIn K C_NoTongue (.type "object") = some true)
    (fn_NoTongue : PySem.W.findIn K (.ref C_NoTongue) "part" = some none)
    (i1_NoTongue : PySem.W.findIn K (.ref C_NoTongue) "__init__" = some (some (.ref I_NoTongue)))
    (i2_NoTongue : PySem.W.typeIn K (.ref I_NoTongue) = some (.type "function"))
    (i3_NoTongue : K.lookup I_NoTongue = some ⟨ocI_NoTongue, odI_NoTongue, .func (PySem.W.fnOf "__init__" "NoTongue.__init__" (defArgs s_NoTongue___init__) (defBody s_NoTongue___init__) (defScope s_NoTongue___init__) .none kVI_NoTongue dcI_NoTongue pmI_NoTongue anI_NoTongue cdI_NoTongue ctI_NoTongue), slI_NoTongue⟩)
    (i4_NoTongue : PySem.W.codeIn K cdI_NoTongue "NoTongue.__init__" = true)
    (i5_NoTongue : PySem.W.keepIn K (.ref I_NoTongue) = true)
    (xl_NoWants : K.lookup C_NoWants = some (excClassObj nm_NoWants qn_NoWants C_NoWants N_NoWants bs_NoWants [.ref C_DearError, .type "ValueError", .type "Exception", .type "BaseException", .type "object"] true sn_NoWants sb_NoWants ab_NoWants col_NoWants dd_NoWants m0_NoWants m1_NoWants m2_NoWants m3_NoWants m5_NoWants "ValueError.__new__"))
    (sa_NoWants : PySem.W.findIn K (.ref C_NoWants) "__setattr__" = some (some (.builtin "object.__setattr__")))
    (x2_NoWants : PySem.W.keepIn K (.ref C_NoWants) = true)
    (x3_NoWants : PySem.W.subIn K (.ref C_NoWants) (.type "BaseException") = some true)
    (x4_NoWants : PySem.W.typeIn K (.ref C_NoWants) = some (.type "type"))
    (x5_NoWants : PySem.W.findIn K (.ref C_NoWants) "__getattribute__" = some (some (.builtin "BaseException.__getattribute__")))
    (x6_NoWants : PySem.W.findIn K (.ref C_NoWants) "__getattr__" = some none)
    (x7_NoWants : PySem.W.hasDictIn K C_NoWants = true)
    (x8_NoWants : PySem.W.findIn K (.ref C_NoWants) "__class__" = some (some (.builtin "object.__class__")))
    (x9_NoWants : PySem.W.specialIn K (.builtin "object.__class__") "__get__" = some (some (.builtin "getset_descriptor.__get__")))
    (x10_NoWants : PySem.W.takesIn K (.builtin "object.__class__") = some true)
    (x11_NoWants : PySem.W.mroIn K C_NoWants (.type "object") = some true)
    (fn_NoWants : PySem.W.findIn K (.ref C_NoWants) "number" = some none)
    (i1_NoWants : PySem.W.findIn K (.ref C_NoWants) "__init__" = some (some (.ref I_NoWants)))
    (i2_NoWants : PySem.W.typeIn K (.ref I_NoWants) = some (.type "function"))
    (i3_NoWants : K.lookup I_NoWants = some ⟨ocI_NoWants, odI_NoWants, .func (PySem.W.fnOf "__init__" "NoWants.__init__" (defArgs s_NoWants___init__) (defBody s_NoWants___init__) (defScope s_NoWants___init__) .none kVI_NoWants dcI_NoWants pmI_NoWants anI_NoWants cdI_NoWants ctI_NoWants), slI_NoWants⟩)
    (i4_NoWants : PySem.W.codeIn K cdI_NoWants "NoWants.__init__" = true)
    (i5_NoWants : PySem.W.keepIn K (.ref I_NoWants) = true)
    (q_NoTongue_DearError : PySem.W.subIn K (.ref C_NoTongue) (.ref C_DearError) = some true)
    (n_NoTongue_DearError : (Value.ref C_NoTongue == Value.ref C_DearError) = false)
    (q_NoTongue_NoNumber : PySem.W.subIn K (.ref C_NoTongue) (.ref C_NoNumber) = some false)
    (n_NoTongue_NoNumber : (Value.ref C_NoTongue == Value.ref C_NoNumber) = false)
    (q_NoTongue_NoBook : PySem.W.subIn K (.ref C_NoTongue) (.ref C_NoBook) = some false)
    (n_NoTongue_NoBook : (Value.ref C_NoTongue == Value.ref C_NoBook) = false)
    (q_NoTongue_NoTree : PySem.W.subIn K (.ref C_NoTongue) (.ref C_NoTree) = some false)
    (n_NoTongue_NoTree : (Value.ref C_NoTongue == Value.ref C_NoTree) = false)
    (q_NoTongue_TooMany : PySem.W.subIn K (.ref C_NoTongue) (.ref C_TooMany) = some false)
    (n_NoTongue_TooMany : (Value.ref C_NoTongue == Value.ref C_TooMany) = false)
    (q_NoTongue_NoCount : PySem.W.subIn K (.ref C_NoTongue) (.ref C_NoCount) = some false)
    (n_NoTongue_NoCount : (Value.ref C_NoTongue == Value.ref C_NoCount) = false)
    (q_NoTongue_NoUndo : PySem.W.subIn K (.ref C_NoTongue) (.ref C_NoUndo) = some false)
    (n_NoTongue_NoUndo : (Value.ref C_NoTongue == Value.ref C_NoUndo) = false)
    (q_NoTongue_NoTurn : PySem.W.subIn K (.ref C_NoTongue) (.ref C_NoTurn) = some false)
    (n_NoTongue_NoTurn : (Value.ref C_NoTongue == Value.ref C_NoTurn) = false)
    (q_NoTongue_NoRow : PySem.W.subIn K (.ref C_NoTongue) (.ref C_NoRow) = some false)
    (n_NoTongue_NoRow : (Value.ref C_NoTongue == Value.ref C_NoRow) = false)
    (q_NoTongue_Unknown : PySem.W.subIn K (.ref C_NoTongue) (.ref C_Unknown) = some false)
    (n_NoTongue_Unknown : (Value.ref C_NoTongue == Value.ref C_Unknown) = false)
    (q_NoTongue_NoTongue : PySem.W.subIn K (.ref C_NoTongue) (.ref C_NoTongue) = some true)
    (q_NoTongue_NoWants : PySem.W.subIn K (.ref C_NoTongue) (.ref C_NoWants) = some false)
    (n_NoTongue_NoWants : (Value.ref C_NoTongue == Value.ref C_NoWants) = false)
    (q_NoTongue_NoThing : PySem.W.subIn K (.ref C_NoTongue) (.ref C_NoThing) = some false)
    (n_NoTongue_NoThing : (Value.ref C_NoTongue == Value.ref C_NoThing) = false)
    (q_NoTongue_BadSign : PySem.W.subIn K (.ref C_NoTongue) (.ref C_BadSign) = some false)
    (n_NoTongue_BadSign : (Value.ref C_NoTongue == Value.ref C_BadSign) = false)
    (q_NoTongue_NoText : PySem.W.subIn K (.ref C_NoTongue) (.ref C_NoText) = some false)
    (n_NoTongue_NoText : (Value.ref C_NoTongue == Value.ref C_NoText) = false)
    (q_NoTongue_ValueError : PySem.W.subIn K (.ref C_NoTongue) (.type "ValueError") = some true)
    (q_NoWants_DearError : PySem.W.subIn K (.ref C_NoWants) (.ref C_DearError) = some true)
    (n_NoWants_DearError : (Value.ref C_NoWants == Value.ref C_DearError) = false)
    (q_NoWants_NoNumber : PySem.W.subIn K (.ref C_NoWants) (.ref C_NoNumber) = some false)
    (n_NoWants_NoNumber : (Value.ref C_NoWants == Value.ref C_NoNumber) = false)
    (q_NoWants_NoBook : PySem.W.subIn K (.ref C_NoWants) (.ref C_NoBook) = some false)
    (n_NoWants_NoBook : (Value.ref C_NoWants == Value.ref C_NoBook) = false)
    (q_NoWants_NoTree : PySem.W.subIn K (.ref C_NoWants) (.ref C_NoTree) = some false)
    (n_NoWants_NoTree : (Value.ref C_NoWants == Value.ref C_NoTree) = false)
    (q_NoWants_TooMany : PySem.W.subIn K (.ref C_NoWants) (.ref C_TooMany) = some false)
    (n_NoWants_TooMany : (Value.ref C_NoWants == Value.ref C_TooMany) = false)
    (q_NoWants_NoCount : PySem.W.subIn K (.ref C_NoWants) (.ref C_NoCount) = some false)
    (n_NoWants_NoCount : (Value.ref C_NoWants == Value.ref C_NoCount) = false)
    (q_NoWants_NoUndo : PySem.W.subIn K (.ref C_NoWants) (.ref C_NoUndo) = some false)
    (n_NoWants_NoUndo : (Value.ref C_NoWants == Value.ref C_NoUndo) = false)
    (q_NoWants_NoTurn : PySem.W.subIn K (.ref C_NoWants) (.ref C_NoTurn) = some false)
    (n_NoWants_NoTurn : (Value.ref C_NoWants == Value.ref C_NoTurn) = false)
    (q_NoWants_NoRow : PySem.W.subIn K (.ref C_NoWants) (.ref C_NoRow) = some false)
    (n_NoWants_NoRow : (Value.ref C_NoWants == Value.ref C_NoRow) = false)
    (q_NoWants_Unknown : PySem.W.subIn K (.ref C_NoWants) (.ref C_Unknown) = some false)
    (n_NoWants_Unknown : (Value.ref C_NoWants == Value.ref C_Unknown) = false)
    (q_NoWants_NoTongue : PySem.W.subIn K (.ref C_NoWants) (.ref C_NoTongue) = some false)
    (n_NoWants_NoTongue : (Value.ref C_NoWants == Value.ref C_NoTongue) = false)
    (q_NoWants_NoWants : PySem.W.subIn K (.ref C_NoWants) (.ref C_NoWants) = some true)
    (q_NoWants_NoThing : PySem.W.subIn K (.ref C_NoWants) (.ref C_NoThing) = some false)
    (n_NoWants_NoThing : (Value.ref C_NoWants == Value.ref C_NoThing) = false)
    (q_NoWants_BadSign : PySem.W.subIn K (.ref C_NoWants) (.ref C_BadSign) = some false)
    (n_NoWants_BadSign : (Value.ref C_NoWants == Value.ref C_BadSign) = false)
    (q_NoWants_NoText : PySem.W.subIn K (.ref C_NoWants) (.ref C_NoText) = some false)
    (n_NoWants_NoText : (Value.ref C_NoWants == Value.ref C_NoText) = false)
    (q_NoWants_ValueError : PySem.W.subIn K (.ref C_NoWants) (.type "ValueError") = some true)
    (q_NoTurn_DearError : PySem.W.subIn K (.ref C_NoTurn) (.ref C_DearError) = some true)
    (n_NoTurn_DearError : (Value.ref C_NoTurn == Value.ref C_DearError) = false)
    (q_NoTurn_NoNumber : PySem.W.subIn K (.ref C_NoTurn) (.ref C_NoNumber) = some false)
    (n_NoTurn_NoNumber : (Value.ref C_NoTurn == Value.ref C_NoNumber) = false)
    (q_NoTurn_NoBook : PySem.W.subIn K (.ref C_NoTurn) (.ref C_NoBook) = some false)
    (n_NoTurn_NoBook : (Value.ref C_NoTurn == Value.ref C_NoBook) = false)
    (q_NoTurn_NoTree : PySem.W.subIn K (.ref C_NoTurn) (.ref C_NoTree) = some false)
    (n_NoTurn_NoTree : (Value.ref C_NoTurn == Value.ref C_NoTree) = false)
    (q_NoTurn_TooMany : PySem.W.subIn K (.ref C_NoTurn) (.ref C_TooMany) = some false)
    (n_NoTurn_TooMany : (Value.ref C_NoTurn == Value.ref C_TooMany) = false)
    (q_NoTurn_NoCount : PySem.W.subIn K (.ref C_NoTurn) (.ref C_NoCount) = some false)
    (n_NoTurn_NoCount : (Value.ref C_NoTurn == Value.ref C_NoCount) = false)
    (q_NoTurn_NoUndo : PySem.W.subIn K (.ref C_NoTurn) (.ref C_NoUndo) = some false)
    (n_NoTurn_NoUndo : (Value.ref C_NoTurn == Value.ref C_NoUndo) = false)
    (q_NoTurn_NoTurn : PySem.W.subIn K (.ref C_NoTurn) (.ref C_NoTurn) = some true)
    (q_NoTurn_NoRow : PySem.W.subIn K (.ref C_NoTurn) (.ref C_NoRow) = some false)
    (n_NoTurn_NoRow : (Value.ref C_NoTurn == Value.ref C_NoRow) = false)
    (q_NoTurn_Unknown : PySem.W.subIn K (.ref C_NoTurn) (.ref C_Unknown) = some false)
    (n_NoTurn_Unknown : (Value.ref C_NoTurn == Value.ref C_Unknown) = false)
    (q_NoTurn_NoTongue : PySem.W.subIn K (.ref C_NoTurn) (.ref C_NoTongue) = some false)
    (n_NoTurn_NoTongue : (Value.ref C_NoTurn == Value.ref C_NoTongue) = false)
    (q_NoTurn_NoWants : PySem.W.subIn K (.ref C_NoTurn) (.ref C_NoWants) = some false)
    (n_NoTurn_NoWants : (Value.ref C_NoTurn == Value.ref C_NoWants) = false)
    (q_NoTurn_NoThing : PySem.W.subIn K (.ref C_NoTurn) (.ref C_NoThing) = some false)
    (n_NoTurn_NoThing : (Value.ref C_NoTurn == Value.ref C_NoThing) = false)
    (q_NoTurn_BadSign : PySem.W.subIn K (.ref C_NoTurn) (.ref C_BadSign) = some false)
    (n_NoTurn_BadSign : (Value.ref C_NoTurn == Value.ref C_BadSign) = false)
    (q_NoTurn_NoText : PySem.W.subIn K (.ref C_NoTurn) (.ref C_NoText) = some false)
    (n_NoTurn_NoText : (Value.ref C_NoTurn == Value.ref C_NoText) = false)
    (q_NoTurn_ValueError : PySem.W.subIn K (.ref C_NoTurn) (.type "ValueError") = some true)
    (b_NoTongue : PySem.W.subIn K (.ref C_NoTongue) (.type "BaseException") = some true)
    (b_NoWants : PySem.W.subIn K (.ref C_NoWants) (.type "BaseException") = some true)
    (a1 : PySem.W.nsIn K mainGlobals "is_whole" = some (some (.ref f1))) (l1 : K.lookup f1 = some ⟨oc1, od1, .func (PySem.W.fnOf "is_whole" "is_whole" (defArgs s_is_whole) (defBody s_is_whole) (defScope s_is_whole) .none kV1 dc1 pm1 an1 cd1 ct1), sl1⟩) (c1 : PySem.W.codeIn K cd1 "is_whole" = true) (k1 : PySem.W.keepIn K (.ref f1) = true)
    (a2 : PySem.W.nsIn K mainGlobals "is_name" = some (some (.ref f2))) (l2 : K.lookup f2 = some ⟨oc2, od2, .func (PySem.W.fnOf "is_name" "is_name" (defArgs s_is_name) (defBody s_is_name) (defScope s_is_name) .none kV2 dc2 pm2 an2 cd2 ct2), sl2⟩) (c2 : PySem.W.codeIn K cd2 "is_name" = true) (k2 : PySem.W.keepIn K (.ref f2) = true)
    (a3 : PySem.W.nsIn K mainGlobals "divisor" = some (some (.ref f3))) (l3 : K.lookup f3 = some ⟨oc3, od3, .func (PySem.W.fnOf "divisor" "divisor" (defArgs s_divisor) (defBody s_divisor) (defScope s_divisor) .none kV3 dc3 pm3 an3 cd3 ct3), sl3⟩) (c3 : PySem.W.codeIn K cd3 "divisor" = true) (k3 : PySem.W.keepIn K (.ref f3) = true)
    (a4 : PySem.W.nsIn K mainGlobals "is_fraction" = some (some (.ref f4))) (l4 : K.lookup f4 = some ⟨oc4, od4, .func (PySem.W.fnOf "is_fraction" "is_fraction" (defArgs s_is_fraction) (defBody s_is_fraction) (defScope s_is_fraction) .none kV4 dc4 pm4 an4 cd4 ct4), sl4⟩) (c4 : PySem.W.codeIn K cd4 "is_fraction" = true) (k4 : PySem.W.keepIn K (.ref f4) = true)
    (a5 : PySem.W.nsIn K mainGlobals "lowest" = some (some (.ref f5))) (l5 : K.lookup f5 = some ⟨oc5, od5, .func (PySem.W.fnOf "lowest" "lowest" (defArgs s_lowest) (defBody s_lowest) (defScope s_lowest) .none kV5 dc5 pm5 an5 cd5 ct5), sl5⟩) (c5 : PySem.W.codeIn K cd5 "lowest" = true) (k5 : PySem.W.keepIn K (.ref f5) = true)
    (a6 : PySem.W.nsIn K mainGlobals "times" = some (some (.ref f6))) (l6 : K.lookup f6 = some ⟨oc6, od6, .func (PySem.W.fnOf "times" "times" (defArgs s_times) (defBody s_times) (defScope s_times) .none kV6 dc6 pm6 an6 cd6 ct6), sl6⟩) (c6 : PySem.W.codeIn K cd6 "times" = true) (k6 : PySem.W.keepIn K (.ref f6) = true)
    (a7 : PySem.W.nsIn K mainGlobals "is_price" = some (some (.ref f7))) (l7 : K.lookup f7 = some ⟨oc7, od7, .func (PySem.W.fnOf "is_price" "is_price" (defArgs s_is_price) (defBody s_is_price) (defScope s_is_price) .none kV7 dc7 pm7 an7 cd7 ct7), sl7⟩) (c7 : PySem.W.codeIn K cd7 "is_price" = true) (k7 : PySem.W.keepIn K (.ref f7) = true)
    (a8 : PySem.W.nsIn K mainGlobals "is_letter" = some (some (.ref f8))) (l8 : K.lookup f8 = some ⟨oc8, od8, .func (PySem.W.fnOf "is_letter" "is_letter" (defArgs s_is_letter) (defBody s_is_letter) (defScope s_is_letter) .none kV8 dc8 pm8 an8 cd8 ct8), sl8⟩) (c8 : PySem.W.codeIn K cd8 "is_letter" = true) (k8 : PySem.W.keepIn K (.ref f8) = true)
    (a9 : PySem.W.nsIn K mainGlobals "is_sign" = some (some (.ref f9))) (l9 : K.lookup f9 = some ⟨oc9, od9, .func (PySem.W.fnOf "is_sign" "is_sign" (defArgs s_is_sign) (defBody s_is_sign) (defScope s_is_sign) .none kV9 dc9 pm9 an9 cd9 ct9), sl9⟩) (c9 : PySem.W.codeIn K cd9 "is_sign" = true) (k9 : PySem.W.keepIn K (.ref f9) = true)
    (a10 : PySem.W.nsIn K mainGlobals "are_signs" = some (some (.ref f10))) (l10 : K.lookup f10 = some ⟨oc10, od10, .func (PySem.W.fnOf "are_signs" "are_signs" (defArgs s_are_signs) (defBody s_are_signs) (defScope s_are_signs) .none kV10 dc10 pm10 an10 cd10 ct10), sl10⟩) (c10 : PySem.W.codeIn K cd10 "are_signs" = true) (k10 : PySem.W.keepIn K (.ref f10) = true)
    (a11 : PySem.W.nsIn K mainGlobals "are_unlike_texts" = some (some (.ref f11))) (l11 : K.lookup f11 = some ⟨oc11, od11, .func (PySem.W.fnOf "are_unlike_texts" "are_unlike_texts" (defArgs s_are_unlike_texts) (defBody s_are_unlike_texts) (defScope s_are_unlike_texts) .none kV11 dc11 pm11 an11 cd11 ct11), sl11⟩) (c11 : PySem.W.codeIn K cd11 "are_unlike_texts" = true) (k11 : PySem.W.keepIn K (.ref f11) = true)
    (a12 : PySem.W.nsIn K mainGlobals "look_at_tongue" = some (some (.ref f12))) (l12 : K.lookup f12 = some ⟨oc12, od12, .func (PySem.W.fnOf "look_at_tongue" "look_at_tongue" (defArgs s_look_at_tongue) (defBody s_look_at_tongue) (defScope s_look_at_tongue) .none kV12 dc12 pm12 an12 cd12 ct12), sl12⟩) (c12 : PySem.W.codeIn K cd12 "look_at_tongue" = true) (k12 : PySem.W.keepIn K (.ref f12) = true)
    (a13 : PySem.W.nsIn K mainGlobals "is_want" = some (some (.ref f13))) (l13 : K.lookup f13 = some ⟨oc13, od13, .func (PySem.W.fnOf "is_want" "is_want" (defArgs s_is_want) (defBody s_is_want) (defScope s_is_want) .none kV13 dc13 pm13 an13 cd13 ct13), sl13⟩) (c13 : PySem.W.codeIn K cd13 "is_want" = true) (k13 : PySem.W.keepIn K (.ref f13) = true)
    (a14 : PySem.W.nsIn K mainGlobals "look_at_wants" = some (some (.ref f14))) (l14 : K.lookup f14 = some ⟨oc14, od14, .func (PySem.W.fnOf "look_at_wants" "look_at_wants" (defArgs s_look_at_wants) (defBody s_look_at_wants) (defScope s_look_at_wants) .none kV14 dc14 pm14 an14 cd14 ct14), sl14⟩) (c14 : PySem.W.codeIn K cd14 "look_at_wants" = true) (k14 : PySem.W.keepIn K (.ref f14) = true)
    (a15 : PySem.W.nsIn K mainGlobals "dearer" = some (some (.ref f15))) (l15 : K.lookup f15 = some ⟨oc15, od15, .func (PySem.W.fnOf "dearer" "dearer" (defArgs s_dearer) (defBody s_dearer) (defScope s_dearer) .none kV15 dc15 pm15 an15 cd15 ct15), sl15⟩) (c15 : PySem.W.codeIn K cd15 "dearer" = true) (k15 : PySem.W.keepIn K (.ref f15) = true)
    (a16 : PySem.W.nsIn K mainGlobals "more_often" = some (some (.ref f16))) (l16 : K.lookup f16 = some ⟨oc16, od16, .func (PySem.W.fnOf "more_often" "more_often" (defArgs s_more_often) (defBody s_more_often) (defScope s_more_often) .none kV16 dc16 pm16 an16 cd16 ct16), sl16⟩) (c16 : PySem.W.codeIn K cd16 "more_often" = true) (k16 : PySem.W.keepIn K (.ref f16) = true)
    (a17 : PySem.W.nsIn K mainGlobals "_law_cell" = some (some (.ref f17))) (l17 : K.lookup f17 = some ⟨oc17, od17, .func (PySem.W.fnOf "_law_cell" "_law_cell" (defArgs s__law_cell) (defBody s__law_cell) (defScope s__law_cell) .none kV17 dc17 pm17 an17 cd17 ct17), sl17⟩) (c17 : PySem.W.codeIn K cd17 "_law_cell" = true) (k17 : PySem.W.keepIn K (.ref f17) = true)
    (a18 : PySem.W.nsIn K mainGlobals "_law_draws" = some (some (.ref f18))) (l18 : K.lookup f18 = some ⟨oc18, od18, .func (PySem.W.fnOf "_law_draws" "_law_draws" (defArgs s__law_draws) (defBody s__law_draws) (defScope s__law_draws) .none kV18 dc18 pm18 an18 cd18 ct18), sl18⟩) (c18 : PySem.W.codeIn K cd18 "_law_draws" = true) (k18 : PySem.W.keepIn K (.ref f18) = true)
    (a19 : PySem.W.nsIn K mainGlobals "_law_low" = some (some (.ref f19))) (l19 : K.lookup f19 = some ⟨oc19, od19, .func (PySem.W.fnOf "_law_low" "_law_low" (defArgs s__law_low) (defBody s__law_low) (defScope s__law_low) .none kV19 dc19 pm19 an19 cd19 ct19), sl19⟩) (c19 : PySem.W.codeIn K cd19 "_law_low" = true) (k19 : PySem.W.keepIn K (.ref f19) = true)
    (a20 : PySem.W.nsIn K mainGlobals "_law_letters" = some (some (.ref f20))) (l20 : K.lookup f20 = some ⟨oc20, od20, .func (PySem.W.fnOf "_law_letters" "_law_letters" (defArgs s__law_letters) (defBody s__law_letters) (defScope s__law_letters) .none kV20 dc20 pm20 an20 cd20 ct20), sl20⟩) (c20 : PySem.W.codeIn K cd20 "_law_letters" = true) (k20 : PySem.W.keepIn K (.ref f20) = true)
    (a21 : PySem.W.nsIn K mainGlobals "_law_sign" = some (some (.ref f21))) (l21 : K.lookup f21 = some ⟨oc21, od21, .func (PySem.W.fnOf "_law_sign" "_law_sign" (defArgs s__law_sign) (defBody s__law_sign) (defScope s__law_sign) .none kV21 dc21 pm21 an21 cd21 ct21), sl21⟩) (c21 : PySem.W.codeIn K cd21 "_law_sign" = true) (k21 : PySem.W.keepIn K (.ref f21) = true)
    (a22 : PySem.W.nsIn K mainGlobals "_law_tongue" = some (some (.ref f22))) (l22 : K.lookup f22 = some ⟨oc22, od22, .func (PySem.W.fnOf "_law_tongue" "_law_tongue" (defArgs s__law_tongue) (defBody s__law_tongue) (defScope s__law_tongue) .none kV22 dc22 pm22 an22 cd22 ct22), sl22⟩) (c22 : PySem.W.codeIn K cd22 "_law_tongue" = true) (k22 : PySem.W.keepIn K (.ref f22) = true)
    (a23 : PySem.W.nsIn K mainGlobals "_law_wants" = some (some (.ref f23))) (l23 : K.lookup f23 = some ⟨oc23, od23, .func (PySem.W.fnOf "_law_wants" "_law_wants" (defArgs s__law_wants) (defBody s__law_wants) (defScope s__law_wants) .none kV23 dc23 pm23 an23 cd23 ct23), sl23⟩) (c23 : PySem.W.codeIn K cd23 "_law_wants" = true) (k23 : PySem.W.keepIn K (.ref f23) = true)
    (a24 : PySem.W.nsIn K mainGlobals "_law_is_no_turn" = some (some (.ref f24))) (l24 : K.lookup f24 = some ⟨oc24, od24, .func (PySem.W.fnOf "_law_is_no_turn" "_law_is_no_turn" (defArgs s__law_is_no_turn) (defBody s__law_is_no_turn) (defScope s__law_is_no_turn) .none kV24 dc24 pm24 an24 cd24 ct24), sl24⟩) (c24 : PySem.W.codeIn K cd24 "_law_is_no_turn" = true) (k24 : PySem.W.keepIn K (.ref f24) = true)
    (a25 : PySem.W.nsIn K mainGlobals "_law_copy" = some (some (.ref f25))) (l25 : K.lookup f25 = some ⟨oc25, od25, .func (PySem.W.fnOf "_law_copy" "_law_copy" (defArgs s__law_copy) (defBody s__law_copy) (defScope s__law_copy) .none kV25 dc25 pm25 an25 cd25 ct25), sl25⟩) (c25 : PySem.W.codeIn K cd25 "_law_copy" = true) (k25 : PySem.W.keepIn K (.ref f25) = true)
    (a26 : PySem.W.nsIn K mainGlobals "_law_times" = some (some (.ref f26))) (l26 : K.lookup f26 = some ⟨oc26, od26, .func (PySem.W.fnOf "_law_times" "_law_times" (defArgs s__law_times) (defBody s__law_times) (defScope s__law_times) .none kV26 dc26 pm26 an26 cd26 ct26), sl26⟩) (c26 : PySem.W.codeIn K cd26 "_law_times" = true) (k26 : PySem.W.keepIn K (.ref f26) = true)
    (a27 : PySem.W.nsIn K mainGlobals "_law_dearer" = some (some (.ref f27))) (l27 : K.lookup f27 = some ⟨oc27, od27, .func (PySem.W.fnOf "_law_dearer" "_law_dearer" (defArgs s__law_dearer) (defBody s__law_dearer) (defScope s__law_dearer) .none kV27 dc27 pm27 an27 cd27 ct27), sl27⟩) (c27 : PySem.W.codeIn K cd27 "_law_dearer" = true) (k27 : PySem.W.keepIn K (.ref f27) = true)
    (a28 : PySem.W.nsIn K mainGlobals "_law_refused" = some (some (.ref f28))) (l28 : K.lookup f28 = some ⟨oc28, od28, .func (PySem.W.fnOf "_law_refused" "_law_refused" (defArgs s__law_refused) (defBody s__law_refused) (defScope s__law_refused) .none kV28 dc28 pm28 an28 cd28 ct28), sl28⟩) (c28 : PySem.W.codeIn K cd28 "_law_refused" = true) (k28 : PySem.W.keepIn K (.ref f28) = true)
    (a29 : PySem.W.nsIn K mainGlobals "_law_no_tongue" = some (some (.ref f29))) (l29 : K.lookup f29 = some ⟨oc29, od29, .func (PySem.W.fnOf "_law_no_tongue" "_law_no_tongue" (defArgs s__law_no_tongue) (defBody s__law_no_tongue) (defScope s__law_no_tongue) .none kV29 dc29 pm29 an29 cd29 ct29), sl29⟩) (c29 : PySem.W.codeIn K cd29 "_law_no_tongue" = true) (k29 : PySem.W.keepIn K (.ref f29) = true)
    (a30 : PySem.W.nsIn K mainGlobals "_law_no_wants" = some (some (.ref f30))) (l30 : K.lookup f30 = some ⟨oc30, od30, .func (PySem.W.fnOf "_law_no_wants" "_law_no_wants" (defArgs s__law_no_wants) (defBody s__law_no_wants) (defScope s__law_no_wants) .none kV30 dc30 pm30 an30 cd30 ct30), sl30⟩) (c30 : PySem.W.codeIn K cd30 "_law_no_wants" = true) (k30 : PySem.W.keepIn K (.ref f30) = true)
    (a31 : PySem.W.nsIn K mainGlobals "_law_much" = some (some (.ref f31))) (l31 : K.lookup f31 = some ⟨oc31, od31, .func (PySem.W.fnOf "_law_much" "_law_much" (defArgs s__law_much) (defBody s__law_much) (defScope s__law_much) .none kV31 dc31 pm31 an31 cd31 ct31), sl31⟩) (c31 : PySem.W.codeIn K cd31 "_law_much" = true) (k31 : PySem.W.keepIn K (.ref f31) = true)
    (a32 : PySem.W.nsIn K mainGlobals "_law_counts_right" = some (some (.ref f32))) (l32 : K.lookup f32 = some ⟨oc32, od32, .func (PySem.W.fnOf "_law_counts_right" "_law_counts_right" (defArgs s__law_counts_right) (defBody s__law_counts_right) (defScope s__law_counts_right) .none kV32 dc32 pm32 an32 cd32 ct32), sl32⟩) (c32 : PySem.W.codeIn K cd32 "_law_counts_right" = true) (k32 : PySem.W.keepIn K (.ref f32) = true)
    (a33 : PySem.W.nsIn K mainGlobals "law" = some (some (.ref f33))) (l33 : K.lookup f33 = some ⟨oc33, od33, .func (PySem.W.fnOf "law" "law" (defArgs s_law) (defBody s_law) (defScope s_law) .none kV33 dc33 pm33 an33 cd33 ct33), sl33⟩) (c33 : PySem.W.codeIn K cd33 "law" = true) (k33 : PySem.W.keepIn K (.ref f33) = true)
    (a34 : PySem.W.nsIn K mainGlobals "LETTERS_numbers" = some (some (.str "abcdefghijklmnopqrstuvwxyz" t34)))
    (a35 : PySem.W.nsIn K mainGlobals "LONGEST_numbers" = some (some (.int 8 t35)))
    (a36 : PySem.W.nsIn K mainGlobals "LETTERS_tongues" = some (some (.str "abcdefghijklmnopqrstuvwxyz" t36)))
    (a37 : PySem.W.nsIn K mainGlobals "FEWEST_SIGNS" = some (some (.int 2 t37)))
    (a38 : PySem.W.nsIn K mainGlobals "MOST_SIGNS" = some (some (.int 6 t38)))
    (a39 : PySem.W.nsIn K mainGlobals "LONGEST_tongues" = some (some (.int 8 t39)))
    (a40 : PySem.W.nsIn K mainGlobals "MOST_THINGS" = some (some (.int 20 t40)))
    (a41 : PySem.W.nsIn K mainGlobals "GREATEST_COUNT" = some (some (.int 1000000000 t41)))
    (a42 : PySem.W.nsIn K mainGlobals "GREATEST_FACTOR" = some (some (.int 1000 t42)))
    (a43 : PySem.W.nsIn K mainGlobals "MOST_OFTEN" = some (some (.int 1000000000 t43)))
    (a44 : PySem.W.nsIn K mainGlobals "ValueError" = some none)
    (a45 : PySem.W.nsIn K mainGlobals "abs" = some none)
    (a46 : PySem.W.nsIn K mainGlobals "all" = some none)
    (a47 : PySem.W.nsIn K mainGlobals "bool" = some none)
    (a48 : PySem.W.nsIn K mainGlobals "enumerate" = some none)
    (a49 : PySem.W.nsIn K mainGlobals "int" = some none)
    (a50 : PySem.W.nsIn K mainGlobals "isinstance" = some none)
    (a51 : PySem.W.nsIn K mainGlobals "len" = some none)
    (a52 : PySem.W.nsIn K mainGlobals "list" = some none)
    (a53 : PySem.W.nsIn K mainGlobals "max" = some none)
    (a54 : PySem.W.nsIn K mainGlobals "range" = some none)
    (a55 : PySem.W.nsIn K mainGlobals "set" = some none)
    (a56 : PySem.W.nsIn K mainGlobals "str" = some none)
    (a57 : PySem.W.nsIn K mainGlobals "tuple" = some none)
    : Txt K mg :=
  ⟨⟨C_DearError, C_NoNumber, C_NoBook, C_NoTree, C_TooMany, C_NoCount, C_NoUndo, C_NoTurn, C_NoRow, C_Unknown, C_NoTongue, C_NoWants, C_NoThing, C_BadSign, C_NoText⟩,
   PySem.W.mg_of X G g_DearError,
   PySem.W.mg_of X G g_NoNumber,
   PySem.W.mg_of X G g_NoBook,
   PySem.W.mg_of X G g_NoTree,
   PySem.W.mg_of X G g_TooMany,
   PySem.W.mg_of X G g_NoCount,
   PySem.W.mg_of X G g_NoUndo,
   PySem.W.mg_of X G g_NoTurn,
   PySem.W.mg_of X G g_NoRow,
   PySem.W.mg_of X G g_Unknown,
   PySem.W.mg_of X G g_NoTongue,
   PySem.W.mg_of X G g_NoWants,
   PySem.W.mg_of X G g_NoThing,
   PySem.W.mg_of X G g_BadSign,
   PySem.W.mg_of X G g_NoText,
   ⟨PySem.W.mg_of X G g_NoTurn, x1_NoTurn, x2_NoTurn, x3_NoTurn, x4_NoTurn, ⟨x5_NoTurn, x6_NoTurn, x3_NoTurn, x7_NoTurn, x8_NoTurn, x9_NoTurn, x10_NoTurn, x11_NoTurn⟩⟩,
   ⟨PySem.W.mg_of X G g_DearError, d1, d2, d3⟩,
   ⟨PySem.W.mg_of X G g_NoTongue, ⟨⟨nm_NoTongue, qn_NoTongue, N_NoTongue, bs_NoTongue, _, sn_NoTongue, sb_NoTongue, ab_NoTongue, col_NoTongue, dd_NoTongue, m0_NoTongue, m1_NoTongue, m2_NoTongue, m3_NoTongue, m5_NoTongue, xl_NoTongue, rfl⟩, sa_NoTongue, x3_NoTongue, x4_NoTongue, x2_NoTongue⟩, fn_NoTongue, ⟨x5_NoTongue, x6_NoTongue, x3_NoTongue, x7_NoTongue, x8_NoTongue, x9_NoTongue, x10_NoTongue, x11_NoTongue⟩⟩,
   ⟨I_NoTongue, _, i1_NoTongue, i2_NoTongue, fun_mk (st := s_NoTongue___init__) i3_NoTongue i4_NoTongue i5_NoTongue, (fun_mk (st := s_NoTongue___init__) i3_NoTongue i4_NoTongue i5_NoTongue).binds (ps := ["self", "part"]) fun _ _ _ _ _ _ us hl => match us, hl with | [_, _], _ => rfl⟩,
   ⟨PySem.W.mg_of X G g_NoWants, ⟨⟨nm_NoWants, qn_NoWants, N_NoWants, bs_NoWants, _, sn_NoWants, sb_NoWants, ab_NoWants, col_NoWants, dd_NoWants, m0_NoWants, m1_NoWants, m2_NoWants, m3_NoWants, m5_NoWants, xl_NoWants, rfl⟩, sa_NoWants, x3_NoWants, x4_NoWants, x2_NoWants⟩, fn_NoWants, ⟨x5_NoWants, x6_NoWants, x3_NoWants, x7_NoWants, x8_NoWants, x9_NoWants, x10_NoWants, x11_NoWants⟩⟩,
   ⟨I_NoWants, _, i1_NoWants, i2_NoWants, fun_mk (st := s_NoWants___init__) i3_NoWants i4_NoWants i5_NoWants, (fun_mk (st := s_NoWants___init__) i3_NoWants i4_NoWants i5_NoWants).binds (ps := ["self", "number"]) fun _ _ _ _ _ _ us hl => match us, hl with | [_, _], _ => rfl⟩,
   kit_ref n_NoTongue_DearError i_DearError t_DearError q_NoTongue_DearError,
   kit_ref n_NoTongue_NoNumber i_NoNumber t_NoNumber q_NoTongue_NoNumber,
   kit_ref n_NoTongue_NoBook i_NoBook t_NoBook q_NoTongue_NoBook,
   kit_ref n_NoTongue_NoTree i_NoTree t_NoTree q_NoTongue_NoTree,
   kit_ref n_NoTongue_TooMany i_TooMany t_TooMany q_NoTongue_TooMany,
   kit_ref n_NoTongue_NoCount i_NoCount t_NoCount q_NoTongue_NoCount,
   kit_ref n_NoTongue_NoUndo i_NoUndo t_NoUndo q_NoTongue_NoUndo,
   kit_ref n_NoTongue_NoTurn i_NoTurn t_NoTurn q_NoTongue_NoTurn,
   kit_ref n_NoTongue_NoRow i_NoRow t_NoRow q_NoTongue_NoRow,
   kit_ref n_NoTongue_Unknown i_Unknown t_Unknown q_NoTongue_Unknown,
   kit_self,
   kit_ref n_NoTongue_NoWants i_NoWants t_NoWants q_NoTongue_NoWants,
   kit_ref n_NoTongue_NoThing i_NoThing t_NoThing q_NoTongue_NoThing,
   kit_ref n_NoTongue_BadSign i_BadSign t_BadSign q_NoTongue_BadSign,
   kit_ref n_NoTongue_NoText i_NoText t_NoText q_NoTongue_NoText,
   kit_val q_NoTongue_ValueError,
   exm_ref2 b_DearError i_DearError t_DearError q_NoTongue_DearError,
   kit_ref n_NoWants_DearError i_DearError t_DearError q_NoWants_DearError,
   kit_ref n_NoWants_NoNumber i_NoNumber t_NoNumber q_NoWants_NoNumber,
   kit_ref n_NoWants_NoBook i_NoBook t_NoBook q_NoWants_NoBook,
   kit_ref n_NoWants_NoTree i_NoTree t_NoTree q_NoWants_NoTree,
   kit_ref n_NoWants_TooMany i_TooMany t_TooMany q_NoWants_TooMany,
   kit_ref n_NoWants_NoCount i_NoCount t_NoCount q_NoWants_NoCount,
   kit_ref n_NoWants_NoUndo i_NoUndo t_NoUndo q_NoWants_NoUndo,
   kit_ref n_NoWants_NoTurn i_NoTurn t_NoTurn q_NoWants_NoTurn,
   kit_ref n_NoWants_NoRow i_NoRow t_NoRow q_NoWants_NoRow,
   kit_ref n_NoWants_Unknown i_Unknown t_Unknown q_NoWants_Unknown,
   kit_ref n_NoWants_NoTongue i_NoTongue t_NoTongue q_NoWants_NoTongue,
   kit_self,
   kit_ref n_NoWants_NoThing i_NoThing t_NoThing q_NoWants_NoThing,
   kit_ref n_NoWants_BadSign i_BadSign t_BadSign q_NoWants_BadSign,
   kit_ref n_NoWants_NoText i_NoText t_NoText q_NoWants_NoText,
   kit_val q_NoWants_ValueError,
   exm_ref2 b_DearError i_DearError t_DearError q_NoWants_DearError,
   kit_ref n_NoTurn_DearError i_DearError t_DearError q_NoTurn_DearError,
   kit_ref n_NoTurn_NoNumber i_NoNumber t_NoNumber q_NoTurn_NoNumber,
   kit_ref n_NoTurn_NoBook i_NoBook t_NoBook q_NoTurn_NoBook,
   kit_ref n_NoTurn_NoTree i_NoTree t_NoTree q_NoTurn_NoTree,
   kit_ref n_NoTurn_TooMany i_TooMany t_TooMany q_NoTurn_TooMany,
   kit_ref n_NoTurn_NoCount i_NoCount t_NoCount q_NoTurn_NoCount,
   kit_ref n_NoTurn_NoUndo i_NoUndo t_NoUndo q_NoTurn_NoUndo,
   kit_self,
   kit_ref n_NoTurn_NoRow i_NoRow t_NoRow q_NoTurn_NoRow,
   kit_ref n_NoTurn_Unknown i_Unknown t_Unknown q_NoTurn_Unknown,
   kit_ref n_NoTurn_NoTongue i_NoTongue t_NoTongue q_NoTurn_NoTongue,
   kit_ref n_NoTurn_NoWants i_NoWants t_NoWants q_NoTurn_NoWants,
   kit_ref n_NoTurn_NoThing i_NoThing t_NoThing q_NoTurn_NoThing,
   kit_ref n_NoTurn_BadSign i_BadSign t_BadSign q_NoTurn_BadSign,
   kit_ref n_NoTurn_NoText i_NoText t_NoText q_NoTurn_NoText,
   kit_val q_NoTurn_ValueError,
   exm_ref2 b_DearError i_DearError t_DearError q_NoTurn_DearError,
   exm_ref2 b_NoTongue i_NoTongue t_NoTongue q_NoTongue_NoTongue,
   exm_ref2 b_NoWants i_NoWants t_NoWants q_NoWants_NoWants,
   ⟨f1, _, PySem.W.mg_of X G a1, fun_mk (st := s_is_whole) l1 c1 k1, (fun_mk (st := s_is_whole) l1 c1 k1).binds (ps := ["thing"]) fun _ _ _ _ _ _ us hl => match us, hl with | [_], _ => rfl⟩,
   ⟨f2, _, PySem.W.mg_of X G a2, fun_mk (st := s_is_name) l2 c2 k2, (fun_mk (st := s_is_name) l2 c2 k2).binds (ps := ["thing"]) fun _ _ _ _ _ _ us hl => match us, hl with | [_], _ => rfl⟩,
   ⟨f3, _, PySem.W.mg_of X G a3, fun_mk (st := s_divisor) l3 c3 k3, (fun_mk (st := s_divisor) l3 c3 k3).binds (ps := ["one", "other"]) fun _ _ _ _ _ _ us hl => match us, hl with | [_, _], _ => rfl⟩,
   ⟨f4, _, PySem.W.mg_of X G a4, fun_mk (st := s_is_fraction) l4 c4 k4, (fun_mk (st := s_is_fraction) l4 c4 k4).binds (ps := ["thing"]) fun _ _ _ _ _ _ us hl => match us, hl with | [_], _ => rfl⟩,
   ⟨f5, _, PySem.W.mg_of X G a5, fun_mk (st := s_lowest) l5 c5 k5, (fun_mk (st := s_lowest) l5 c5 k5).binds (ps := ["top", "bottom"]) fun _ _ _ _ _ _ us hl => match us, hl with | [_, _], _ => rfl⟩,
   ⟨f6, _, PySem.W.mg_of X G a6, fun_mk (st := s_times) l6 c6 k6, (fun_mk (st := s_times) l6 c6 k6).binds (ps := ["one", "other"]) fun _ _ _ _ _ _ us hl => match us, hl with | [_, _], _ => rfl⟩,
   ⟨f7, _, PySem.W.mg_of X G a7, fun_mk (st := s_is_price) l7 c7 k7, (fun_mk (st := s_is_price) l7 c7 k7).binds (ps := ["thing"]) fun _ _ _ _ _ _ us hl => match us, hl with | [_], _ => rfl⟩,
   ⟨f8, _, PySem.W.mg_of X G a8, fun_mk (st := s_is_letter) l8 c8 k8, (fun_mk (st := s_is_letter) l8 c8 k8).binds (ps := ["thing"]) fun _ _ _ _ _ _ us hl => match us, hl with | [_], _ => rfl⟩,
   ⟨f9, _, PySem.W.mg_of X G a9, fun_mk (st := s_is_sign) l9 c9 k9, (fun_mk (st := s_is_sign) l9 c9 k9).binds (ps := ["thing"]) fun _ _ _ _ _ _ us hl => match us, hl with | [_], _ => rfl⟩,
   ⟨f10, _, PySem.W.mg_of X G a10, fun_mk (st := s_are_signs) l10 c10 k10, (fun_mk (st := s_are_signs) l10 c10 k10).binds (ps := ["thing"]) fun _ _ _ _ _ _ us hl => match us, hl with | [_], _ => rfl⟩,
   ⟨f11, _, PySem.W.mg_of X G a11, fun_mk (st := s_are_unlike_texts) l11 c11 k11, (fun_mk (st := s_are_unlike_texts) l11 c11 k11).binds (ps := ["thing", "size", "letters"]) fun _ _ _ _ _ _ us hl => match us, hl with | [_, _, _], _ => rfl⟩,
   ⟨f12, _, PySem.W.mg_of X G a12, fun_mk (st := s_look_at_tongue) l12 c12 k12, (fun_mk (st := s_look_at_tongue) l12 c12 k12).binds (ps := ["thing"]) fun _ _ _ _ _ _ us hl => match us, hl with | [_], _ => rfl⟩,
   ⟨f13, _, PySem.W.mg_of X G a13, fun_mk (st := s_is_want) l13 c13 k13, (fun_mk (st := s_is_want) l13 c13 k13).binds (ps := ["thing"]) fun _ _ _ _ _ _ us hl => match us, hl with | [_], _ => rfl⟩,
   ⟨f14, _, PySem.W.mg_of X G a14, fun_mk (st := s_look_at_wants) l14 c14 k14, (fun_mk (st := s_look_at_wants) l14 c14 k14).binds (ps := ["thing"]) fun _ _ _ _ _ _ us hl => match us, hl with | [_], _ => rfl⟩,
   ⟨f15, _, PySem.W.mg_of X G a15, fun_mk (st := s_dearer) l15 c15 k15, (fun_mk (st := s_dearer) l15 c15 k15).binds (ps := ["tongue", "factor"]) fun _ _ _ _ _ _ us hl => match us, hl with | [_, _], _ => rfl⟩,
   ⟨f16, _, PySem.W.mg_of X G a16, fun_mk (st := s_more_often) l16 c16 k16, (fun_mk (st := s_more_often) l16 c16 k16).binds (ps := ["wants", "factor"]) fun _ _ _ _ _ _ us hl => match us, hl with | [_, _], _ => rfl⟩,
   ⟨f17, _, PySem.W.mg_of X G a17, fun_mk (st := s__law_cell) l17 c17 k17, (fun_mk (st := s__law_cell) l17 c17 k17).binds (ps := ["_law_script", "_law_k"]) fun _ _ _ _ _ _ us hl => match us, hl with | [_, _], _ => rfl⟩,
   ⟨f18, _, PySem.W.mg_of X G a18, fun_mk (st := s__law_draws) l18 c18 k18, (fun_mk (st := s__law_draws) l18 c18 k18).binds (ps := ["_law_cell_here", "_law_k", "_law_sizes"]) fun _ _ _ _ _ _ us hl => match us, hl with | [_, _, _], _ => rfl⟩,
   ⟨f19, _, PySem.W.mg_of X G a19, fun_mk (st := s__law_low) l19 c19 k19, (fun_mk (st := s__law_low) l19 c19 k19).binds (ps := ["_law_top", "_law_bottom"]) fun _ _ _ _ _ _ us hl => match us, hl with | [_, _], _ => rfl⟩,
   ⟨f20, _, PySem.W.mg_of X G a20, fun_mk (st := s__law_letters) l20 c20 k20, (fun_mk (st := s__law_letters) l20 c20 k20).binds (ps := ["_law_row", "_law_many"]) fun _ _ _ _ _ _ us hl => match us, hl with | [_, _], _ => rfl⟩,
   ⟨f21, _, PySem.W.mg_of X G a21, fun_mk (st := s__law_sign) l21 c21 k21, (fun_mk (st := s__law_sign) l21 c21 k21).binds (ps := ["_law_cell_here", "_law_k", "_law_letter", "_law_dear"]) fun _ _ _ _ _ _ us hl => match us, hl with | [_, _, _, _], _ => rfl⟩,
   ⟨f22, _, PySem.W.mg_of X G a22, fun_mk (st := s__law_tongue) l22 c22 k22, (fun_mk (st := s__law_tongue) l22 c22 k22).binds (ps := ["_law_script", "_law_most", "_law_longest"]) fun _ _ _ _ _ _ us hl => match us, hl with | [_, _, _], _ => rfl⟩,
   ⟨f23, _, PySem.W.mg_of X G a23, fun_mk (st := s__law_wants) l23 c23 k23, (fun_mk (st := s__law_wants) l23 c23 k23).binds (ps := ["_law_script", "_law_at", "_law_many"]) fun _ _ _ _ _ _ us hl => match us, hl with | [_, _, _], _ => rfl⟩,
   ⟨f24, _, PySem.W.mg_of X G a24, fun_mk (st := s__law_is_no_turn) l24 c24 k24, (fun_mk (st := s__law_is_no_turn) l24 c24 k24).binds (ps := ["_law_kept"]) fun _ _ _ _ _ _ us hl => match us, hl with | [_], _ => rfl⟩,
   ⟨f25, _, PySem.W.mg_of X G a25, fun_mk (st := s__law_copy) l25 c25 k25, (fun_mk (st := s__law_copy) l25 c25 k25).binds (ps := ["_law_tongue_here"]) fun _ _ _ _ _ _ us hl => match us, hl with | [_], _ => rfl⟩,
   ⟨f26, _, PySem.W.mg_of X G a26, fun_mk (st := s__law_times) l26 c26 k26, (fun_mk (st := s__law_times) l26 c26 k26).binds (ps := ["_law_one", "_law_other"]) fun _ _ _ _ _ _ us hl => match us, hl with | [_, _], _ => rfl⟩,
   ⟨f27, _, PySem.W.mg_of X G a27, fun_mk (st := s__law_dearer) l27 c27 k27, (fun_mk (st := s__law_dearer) l27 c27 k27).binds (ps := ["_law_tongue_here", "_law_factor"]) fun _ _ _ _ _ _ us hl => match us, hl with | [_, _], _ => rfl⟩,
   ⟨f28, _, PySem.W.mg_of X G a28, fun_mk (st := s__law_refused) l28 c28 k28, (fun_mk (st := s__law_refused) l28 c28 k28).binds (ps := ["_law_tongue_here", "_law_wants_here", "_law_thing", "_law_way"]) fun _ _ _ _ _ _ us hl => match us, hl with | [_, _, _, _], _ => rfl⟩,
   ⟨f29, _, PySem.W.mg_of X G a29, fun_mk (st := s__law_no_tongue) l29 c29 k29, (fun_mk (st := s__law_no_tongue) l29 c29 k29).binds (ps := ["_law_tongue_here", "_law_factor"]) fun _ _ _ _ _ _ us hl => match us, hl with | [_, _], _ => rfl⟩,
   ⟨f30, _, PySem.W.mg_of X G a30, fun_mk (st := s__law_no_wants) l30 c30 k30, (fun_mk (st := s__law_no_wants) l30 c30 k30).binds (ps := ["_law_wants_here", "_law_factor"]) fun _ _ _ _ _ _ us hl => match us, hl with | [_, _], _ => rfl⟩,
   ⟨f31, _, PySem.W.mg_of X G a31, fun_mk (st := s__law_much) l31 c31 k31, (fun_mk (st := s__law_much) l31 c31 k31).binds (ps := ["_law_wants_here"]) fun _ _ _ _ _ _ us hl => match us, hl with | [_], _ => rfl⟩,
   ⟨f32, _, PySem.W.mg_of X G a32, fun_mk (st := s__law_counts_right) l32 c32 k32, (fun_mk (st := s__law_counts_right) l32 c32 k32).binds (ps := ["_law_tongue_here", "_law_wants_here", "_law_number"]) fun _ _ _ _ _ _ us hl => match us, hl with | [_, _, _], _ => rfl⟩,
   ⟨f33, _, PySem.W.mg_of X G a33, fun_mk (st := s_law) l33 c33 k33, (fun_mk (st := s_law) l33 c33 k33).binds (ps := ["_law_script"]) fun _ _ _ _ _ _ us hl => match us, hl with | [_], _ => rfl⟩,
   ⟨_, PySem.W.mg_of X G a34⟩,
   ⟨_, PySem.W.mg_of X G a35⟩,
   ⟨_, PySem.W.mg_of X G a36⟩,
   ⟨_, PySem.W.mg_of X G a37⟩,
   ⟨_, PySem.W.mg_of X G a38⟩,
   ⟨_, PySem.W.mg_of X G a39⟩,
   ⟨_, PySem.W.mg_of X G a40⟩,
   ⟨_, PySem.W.mg_of X G a41⟩,
   ⟨_, PySem.W.mg_of X G a42⟩,
   ⟨_, PySem.W.mg_of X G a43⟩,
   PySem.W.mg_none_of X G a44,
   PySem.W.mg_none_of X G a45,
   PySem.W.mg_none_of X G a46,
   PySem.W.mg_none_of X G a47,
   PySem.W.mg_none_of X G a48,
   PySem.W.mg_none_of X G a49,
   PySem.W.mg_none_of X G a50,
   PySem.W.mg_none_of X G a51,
   PySem.W.mg_none_of X G a52,
   PySem.W.mg_none_of X G a53,
   PySem.W.mg_none_of X G a54,
   PySem.W.mg_none_of X G a55,
   PySem.W.mg_none_of X G a56,
   PySem.W.mg_none_of X G a57⟩
theorem oi_NoTongue {P : Program} {w : World} {K : PySem.W.Frag} {mg : Str → Option Value} {base : Heap} (T : Txt K mg) : OkI P w K mg base "NoTongue" "part" T.A.NoTongue := by
  obtain ⟨fI, fd, h1, h2, F, b⟩ := T.F_NoTongue
  refine ⟨fI, fd, h1, h2, F.ok c_NoTongue___init__ (fun vs H Q E h => ?_) (fun cdv A outer s H vs Q E hr h => ?_), b, T.X_NoTongue⟩
  · obtain ⟨a, C, v, rfl, _⟩ := h
    rfl
  · obtain ⟨a, C, v, rfl, o, n, ha, fv, k⟩ := h
    refine ⟨_, (pss_cons (ps_expr (pe_drinit T.D_DearError (pa_cons (pv 0) (pa_cons (pe_joined (.cons pe_str (.cons (pe_fmtN (pv 1)) .nil))) pa_nil)))) (pss_one (ps_ost (pv 0) (pv 1)))), ?_⟩
    refine ⟨_, rfl, _, rfl, (by decide +kernel), _, rfl, fv, fun z hz => ⟨z, rfl, ?_, ?_⟩⟩
    · rw [str_len]
      exact Nat.le_trans (Nat.add_le_add_right (show _ ≤ 100 by decide +kernel) _) (sz_lit (by omega))
    · exact ⟨a, C, _, rfl, (by decide : 1 ≤ 1000), o, ha, _, rfl, _, rfl, a, C, rfl, o, n, .inl ⟨ha, fun dx hd ne => k dx hd ne⟩⟩

theorem oi_NoWants {P : Program} {w : World} {K : PySem.W.Frag} {mg : Str → Option Value} {base : Heap} (T : Txt K mg) : OkI P w K mg base "NoWants" "number" T.A.NoWants := by
  obtain ⟨fI, fd, h1, h2, F, b⟩ := T.F_NoWants
  refine ⟨fI, fd, h1, h2, F.ok c_NoWants___init__ (fun vs H Q E h => ?_) (fun cdv A outer s H vs Q E hr h => ?_), b, T.X_NoWants⟩
  · obtain ⟨a, C, v, rfl, _⟩ := h
    rfl
  · obtain ⟨a, C, v, rfl, o, n, ha, fv, k⟩ := h
    refine ⟨_, (pss_cons (ps_expr (pe_drinit T.D_DearError (pa_cons (pv 0) (pa_cons (pe_joined (.cons pe_str (.cons (pe_fmtN (pv 1)) .nil))) pa_nil)))) (pss_one (ps_ost (pv 0) (pv 1)))), ?_⟩
    refine ⟨_, rfl, _, rfl, (by decide +kernel), _, rfl, fv, fun z hz => ⟨z, rfl, ?_, ?_⟩⟩
    · rw [str_len]
      exact Nat.le_trans (Nat.add_le_add_right (show _ ≤ 100 by decide +kernel) _) (sz_lit (by omega))
    · exact ⟨a, C, _, rfl, (by decide : 1 ≤ 1000), o, ha, _, rfl, _, rfl, a, C, rfl, o, n, .inl ⟨ha, fun dx hd ne => k dx hd ne⟩⟩

end Dear


namespace Dear
open PySem PySem.Spec PyProof.Rows L2
section
variable {P : Program} {w : World} {K : PySem.W.Frag} {mg : Str → Option Value} {base : Heap}
theorem o_is_whole (T : Txt K mg) : OkF P w K mg base CX0 1 "is_whole" ["thing"] spWhole := by
  refine T.f_is_whole.ok c_is_whole (fun vs H Q E h => ?_) (fun f cdv A outer s H vs Q E hr h => ?_)
  · obtain ⟨v, n, rfl, _⟩ := h
    rfl
  · obtain ⟨v, d, rfl, hI, k⟩ := h
    refine ⟨_, (pss_one (ps_ret (pe_and (pe_callB (call_isi_k K) (by rfl) T.b_isinstance (by decide +kernel) (pa_cons (pv 0) (pa_cons (pe_bltn (v := .ty "int") (by rfl) T.b_int (by decide +kernel) rfl) pa_nil))) (pe_one (pe_not (pe_callB (call_isi_k K) (by rfl) T.b_isinstance (by decide +kernel) (pa_cons (pv 0) (pa_cons (pe_bltn (v := .ty "bool") (by rfl) T.b_bool (by decide +kernel) rfl) pa_nil)))))))), ?_⟩
    refine ⟨_, rfl, _, _, _, _, _, rfl, .ty _, hI.ty, kit_ty (kd_int d), _, rfl, ?_⟩
    cases d with
    | int i => exact iteT ⟨_, rfl, _, _, _, _, _, rfl, .ty _, hI.ty, kit_ty (kd_bool _), _, rfl, k⟩
    | bl i => exact iteT ⟨_, rfl, _, _, _, _, _, rfl, .ty _, hI.ty, kit_ty (kd_bool _), _, rfl, k⟩
    | non => exact iteF k
    | str z => exact iteF k
    | lst z => exact iteF k
    | tup z => exact iteF k
    | dct => exact iteF k
theorem o_divisor (T : Txt K mg) : OkF P w K mg base CX0 1 "divisor" ["one", "other"] spDivisor := by
  refine T.f_divisor.ok c_divisor (fun vs H Q E h => ?_) (fun f cdv A outer s H vs Q E hr h => ?_)
  · obtain ⟨v, n, rfl, _⟩ := h
    rfl
  · obtain ⟨a, b, rfl, ha, hb, k⟩ := h
    refine ⟨_, (pss_cons (ps_while PassesOwn.never (pt_cmpR op_gt (pv 1) pe_int (nomark _))
(pss_one (ps_par (by rfl) c_divisor.nd (i := 0) (j := 1) rfl rfl (by decide) rfl rfl (pa_cons (pv 1) (pa_cons (pe_op op_mod (pv 0) (pv 1)) pa_nil)) (by rfl))))
(pss_one (ps_ret (pv 0)))), ?_⟩
    refine while_by (fun σ H' => H' = H ∧ ∃ x y : Int, σ = [some (.int x), some (.int y)] ∧ 0 ≤ x ∧ 0 ≤ y ∧ Int.gcd x y = Int.gcd a b) (fun σ _ => match σ with | [_, some (.int y)] => y.toNat | _ => 0) ⟨rfl, a, b, rfl, ha, hb, rfl⟩ ?_ ?_
    · rintro σ H' ⟨rfl, x, y, rfl, hx, hy, e⟩
      refine ⟨_, rfl, _, _, rfl, rfl, _, rfl, itd (fun c => ?_) fun c => ?_⟩
      · refine ⟨_, rfl, _, rfl, _, rfl, _, _, rfl, rfl, c, _, _, rfl, ⟨rfl, y, x % y, rfl, hy, Int.emod_nonneg _ (by omega), ?_⟩, ?_⟩
        · rw [gcd_step hx c]
          exact e
        · show (x % y).toNat < y.toNat
          have := Int.emod_lt_of_pos x c
          omega
      · have : y = 0 := by omega
        subst this
        refine ⟨_, rfl, ?_⟩
        rw [← e, Int.gcd_zero_right] at k
        have e2 : ((x.natAbs : Nat) : Int) = x := by omega
        rw [e2] at k
        exact k
    · rintro σ H Q Q' hq ⟨v, e1, i, j, e2, e3, x, e4, q⟩
      exact ⟨v, e1, i, j, e2, e3, x, e4, hq _ _ q⟩
theorem o_is_fraction (T : Txt K mg) : OkF P w K mg base CX0 2 "is_fraction" ["thing"] spFr := by
  have o_is_whole := o_is_whole (P := P) (w := w) (base := base) T
  have o_divisor := o_divisor (P := P) (w := w) (base := base) T
  refine T.f_is_fraction.ok c_is_fraction (fun vs H Q E h => ?_) (fun f cdv A outer s H vs Q E hr h => ?_)
  · obtain ⟨v, n, rfl, _⟩ := h
    rfl
  · obtain ⟨v, d, rfl, hI, ok, k⟩ := h
    refine ⟨_, (pss_cons (ps_if (PW.pt (pw_or (pt_not (pt_val (pe_callB (call_isi_k K) (by rfl) T.b_isinstance (by decide +kernel) (pa_cons (pv 0) (pa_cons (pe_bltn (v := .ty "tuple") (by rfl) T.b_tuple (by decide +kernel) rfl) pa_nil))))) (pw_or1 (pt_cmpR op_ne (pe_callB (call_len_seq_k K) (by rfl) T.b_len PySem.boot_len (pa_cons (pv 0) pa_nil)) pe_int (nomark _)))))
(pss_one (ps_ret pe_bl))
pss_nil)
(pss_cons (ps_asg (pv 0) (pg_tup_k K (n := 2) rfl (pgs_cons (pg_name (i := 1) c_is_fraction.nd rfl (Or.inl rfl)) (pgs_cons (pg_name (i := 2) c_is_fraction.nd rfl (Or.inl rfl)) pgs_nil))))
(pss_cons (ps_if (PW.pt (pw_or (pt_not (pt_val (pe_c o_is_whole hr (pa_cons (pv 1) pa_nil)))) (pw_or (pt_not (pt_val (pe_c o_is_whole hr (pa_cons (pv 2) pa_nil)))) (pw_or1 (pt_cmpR op_lt (pv 2) pe_int (nomark _))))))
(pss_one (ps_ret pe_bl))
pss_nil)
(pss_one (ps_ret (pe_cmpR op_eq (pe_c o_divisor hr (pa_cons (pv 2) (pa_cons (pe_callB call_abs (by rfl) T.b_abs (by decide +kernel) (pa_cons (pv 1) pa_nil)) pa_nil))) pe_int (nomark _))))))), ?_⟩
    refine ⟨_, rfl, _, _, _, _, _, rfl, .ty _, hI.ty, kit_ty (kd_tuple d), _, rfl, ?_⟩
    have other : isTup d = false → isFr d = false := fun e => by
      cases d with
      | tup z => cases e
      | _ => rfl
    cases e : isTup d with
    | false =>
      rw [other e] at k
      exact iteT (k H (Same.refl H))
    | true =>
      refine iteF ?_
      cases hI with
      | tup ha hall =>
        rename_i a xs ds
        refine ⟨_, rfl, _, _, rfl, .inr (SqT.of ha), rfl, _, rfl, ?_⟩
        by_cases hl : xs.length = 2
        · have e2 : decide (V.int ((xs.length : Nat) : Int) = V.int 2) = true := by rw [hl]; decide
          rw [e2]
          refine iteF ?_
          match xs, ds, hall, hl with
          | [x, y], _, .cons (d := d1) h1 (.cons (d := d2) h2 .nil), _ =>
            refine ⟨_, rfl, _, _, rfl, SqT.of ha, rfl, _, _, rfl, _, _, rfl, rfl, ?_⟩
            refine ⟨_, rfl, _, _, rfl, h1, _, rfl, ?_⟩
            cases h1 with
            | int t =>
              refine iteF ⟨_, rfl, _, _, rfl, h2, _, rfl, ?_⟩
              cases h2 with
              | int b =>
                refine iteF ⟨_, rfl, _, _, rfl, rfl, _, rfl, itd (fun c => ?_) fun c => ?_⟩
                · have e3 : isFr (.tup [.int t, .int b]) = false := by
                    show (decide (0 < b) && _) = false
                    rw [decide_eq_false (by omega), Bool.false_and]
                  rw [e3] at k
                  exact k H (Same.refl H)
                · refine ⟨_, rfl, _, rfl, _, rfl, _, _, rfl, by omega, ?_, rfl, ?_⟩
                  · split <;> omega
                  · rw [abs_if, gcd_abs]
                    have e3 : isFr (.tup [.int t, .int b]) = decide (V.int ((Int.gcd b t : Nat) : Int) = V.int 1) := by
                      show (decide (0 < b) && (Int.gcd b t == 1)) = _
                      rw [decide_eq_true (by omega), Bool.true_and, dec_int]
                      by_cases z : Int.gcd b t = 1
                      · rw [z]; rfl
                      · have z1 : (Int.gcd b t == 1) = false := by simpa using z
                        have z2 : (((Int.gcd b t : Nat) : Int) == 1) = false := by
                          simp only [beq_eq_false_iff_ne, ne_eq]
                          omega
                        rw [z1, z2]
                    rw [e3] at k
                    exact k H (Same.refl H)
              | _ => exact iteT (k H (Same.refl H))
            | _ => exact iteT (k H (Same.refl H))
        · have e2 : decide (V.int ((xs.length : Nat) : Int) = V.int 2) = false := by
            rw [dec_int]
            simp only [beq_eq_false_iff_ne, ne_eq]
            omega
          rw [e2]
          refine iteT ?_
          have e3 : isFr (.tup ds) = false := isFr_len (by rw [← hall.length]; exact hl)
          rw [e3] at k
          exact k H (Same.refl H)
      | non => cases e
      | bl _ => cases e
      | int _ => cases e
      | str _ => cases e
      | lst _ _ => cases e
      | dct _ => cases e
theorem o_is_name (T : Txt K mg) : OkF P w K mg base CX0 1 "is_name" ["thing"] spNm := by
  refine T.f_is_name.ok c_is_name (fun vs H Q E h => ?_) (fun f cdv A outer s H vs Q E hr h => ?_)
  · obtain ⟨v, n, rfl, _⟩ := h
    rfl
  · obtain ⟨v, d, rfl, hI, ok, k⟩ := h
    refine ⟨_, (pss_cons (ps_if (PW.pt (pw_or (pt_not (pt_val (pe_callB (call_isi_k K) (by rfl) T.b_isinstance (by decide +kernel) (pa_cons (pv 0) (pa_cons (pe_bltn (v := .ty "str") (by rfl) T.b_str (by decide +kernel) rfl) pa_nil))))) (pw_or1 (pt_not (pt_chain op_le op_le pe_int (pe_callB call_len_str (by rfl) T.b_len PySem.boot_len (pa_cons (pv 0) pa_nil)) (pe_gi T.g_LONGEST_numbers))))))
(pss_one (ps_ret pe_bl))
pss_nil)
(pss_one (ps_ret (pe_callB (cr_all_k K rfl) (by rfl) T.b_all (by decide +kernel) (pa_cons (pe_lc (own := [("sign", 1)]) (g := gName 1) (tt := tYes) (by rfl) c_is_name.nd (pi_str (pv 0)) (blkOk_by (own := [("sign", 1)]) (N := n_is_name) (sc := defScope s_is_name) (by decide +kernel)) (fun _ _ _ _ _ => (pg_name (i := 1) c_is_name.nd rfl (Or.inl rfl))) (fun _ _ _ _ _ => pts_nil) (fun _ _ _ _ _ => (pe_cmpR op_in_sign (pv 1) (pe_gs T.g_LETTERS_numbers) rfl))) pa_nil))))), ?_⟩
    refine ⟨_, rfl, _, _, _, _, _, rfl, .ty _, hI.ty, kit_ty (kd_str d), _, rfl, ?_⟩
    cases hI with
    | str z =>
      have hz : z.length ≤ sizeLine := Nat.le_trans ok.1 (by decide)
      refine iteF ⟨_, rfl, _, rfl, hz, _, _, rfl, rfl, _, rfl, itd (fun c1 => ?_) fun c1 => ?_⟩
      · refine ⟨_, _, rfl, rfl, _, rfl, itnd (fun c2 => ?_) fun c2 => ?_⟩
        · have e3 : isNm (.str z) = false := by
            show (decide (1 ≤ z.length ∧ z.length ≤ 8) && _) = false
            rw [decide_eq_false (by omega), Bool.false_and]
          rw [e3] at k
          exact k H (Same.refl H)
        · refine ⟨_, rfl, z, rfl, fun D hD => lc_it walk_str (fun i H' => ∃ bs : List Bool, bs = (z.cps.toList.take i).map (fun c => decide (c ∈ letters.cps.toList)) ∧ H' = upd H D (.lst (bs.map V.bl))) ⟨[], rfl, rfl⟩ (fun _ _ _ _ => trivial) ?_ ?_⟩
          · rintro i x H' H'' hi ⟨bs, eb, rfl⟩ ⟨rfl, c, hc, rfl⟩
            refine ⟨rfl, _, rfl, _, _, rfl, rfl, _, upd_same, ?_, ?_⟩
            · rw [List.length_map, eb, List.length_map, List.length_take]
              exact Nat.lt_of_le_of_lt (Nat.min_le_left _ _) (Nat.lt_of_lt_of_le hi (by show z.length ≤ _; exact hz))
            · refine ⟨bs ++ [decide (c ∈ letters.cps.toList)], ?_, ?_⟩
              · have hc' : z.cps.toList[i]? = some c := by rw [Array.getElem?_toList]; exact hc
                rw [eb, List.take_succ, hc']
                simp
              · rw [upd_upd, List.map_append]
                rfl
          · rintro H' ⟨bs, eb, rfl⟩
            refine ⟨D, bs, rfl, SqL.of upd_same, ?_⟩
            have e3 : isNm (.str z) = bs.all id := by
              show (decide (1 ≤ z.length ∧ z.length ≤ 8) && _) = _
              rw [decide_eq_true (by omega), Bool.true_and, eb]
              have e4 : z.cps.toList.take z.cps.size = z.cps.toList := by rw [← Array.length_toList, List.take_length]
              rw [e4, List.all_map]
              rfl
            rw [e3] at k
            exact k _ (Same.upd hD)
      · have e3 : isNm (.str z) = false := by
          show (decide (1 ≤ z.length ∧ z.length ≤ 8) && _) = false
          rw [decide_eq_false (by omega), Bool.false_and]
        rw [e3] at k
        exact ⟨_, rfl, iteT (k H (Same.refl H))⟩
    | non => exact iteT (k H (Same.refl H))
    | bl _ => exact iteT (k H (Same.refl H))
    | int _ => exact iteT (k H (Same.refl H))
    | lst _ _ => exact iteT (k H (Same.refl H))
    | tup _ _ => exact iteT (k H (Same.refl H))
    | dct _ => exact iteT (k H (Same.refl H))
end
end Dear

namespace Dear
open PySem PySem.Spec PyProof.Rows L2
/-! ### author C's draws -/
def spCell (K : PySem.W.Frag) : Sp := fun vs H Q _ => ∃ (a : Addr) (ns : List Int) (k : Int), vs = [.ref a, .int k] ∧ SqL K H a (ns.map V.int) ∧ 0 ≤ k ∧ ∀ z : Int, Q (.int z) H
/-- drawn numbers, each below its size -/
structure Drawn (ss rs : List Int) : Prop where
  len : rs.length = ss.length
  lt : ∀ (i : Nat) (r m : Int), rs[i]? = some r → ss[i]? = some m → 0 ≤ r ∧ r < m
theorem Drawn.at {ss rs : List Int} (h : Drawn ss rs) {i : Nat} {m : Int} (e : ss[i]? = some m) : ∃ r, rs[i]? = some r ∧ 0 ≤ r ∧ r < m := by
  have hi : i < rs.length := by
    rw [h.len]
    exact (List.getElem?_eq_some_iff.mp e).1
  have e1 : rs[i]? = some rs[i] := List.getElem?_eq_getElem hi
  exact ⟨_, e1, h.lt i _ _ e1 e⟩
theorem Drawn.one {m : Int} {rs : List Int} (h : Drawn [m] rs) : ∃ r, rs = [r] ∧ 0 ≤ r ∧ r < m := by
  match rs, h.len with
  | [r], _ => exact ⟨r, rfl, h.lt 0 r m rfl rfl⟩
def spDraws (K : PySem.W.Frag) : Sp := fun vs H Q _ => ∃ (z k : Int) (p : Addr) (ss : List Int), vs = [.int z, .int k, .ref p] ∧ SqL K H p (ss.map V.int) ∧ ss.length ≤ 100 ∧ (∀ m ∈ ss, 0 < m ∧ m ≤ 1000000000) ∧
  ∀ (q : Addr) (rs : List Int) (H' : Hp), H q = none → Same H H' → H' q = some (.lst (rs.map V.int)) → Drawn ss rs → Q (.ref q) H'
section
variable {P : Program} {w : World} {K : PySem.W.Frag} {mg : Str → Option Value} {base : Heap}
theorem o__law_cell (T : Txt K mg) : OkF P w K mg base CX0 1 "_law_cell" ["_law_script", "_law_k"] (spCell K) := by
  refine T.f__law_cell.ok c__law_cell (fun vs H Q E h => ?_) (fun f cdv A outer s H vs Q E hr h => ?_)
  · obtain ⟨a, ns, k, rfl, _⟩ := h
    rfl
  · obtain ⟨a, ns, k, rfl, hS, k0, q⟩ := h
    refine ⟨_, (pss_cons (ps_if (pt_cmpR op_lt (pv 1) (pe_callB (call_len_seq_k K) (by rfl) T.b_len PySem.boot_len (pa_cons (pv 0) pa_nil)) (nomark _))
(pss_one (ps_ret (pe_ix (ix_list_k K) (pv 0) (pv 1) (fun _ _ => rfl))))
pss_nil)
(pss_one (ps_ret pe_int))), ?_⟩
    refine ⟨_, rfl, _, rfl, _, _, rfl, .inl hS, _, _, rfl, rfl, _, rfl, itd (fun c => ?_) fun _ => q 0⟩
    obtain ⟨x, hx, hm, _⟩ := at_lt k0 c
    obtain ⟨z, _, rfl⟩ := List.mem_map.mp hm
    exact ⟨_, rfl, _, rfl, _, _, _, _, rfl, rfl, hS, hx, q z⟩
theorem o__law_draws (T : Txt K mg) : OkF P w K mg base CX0 1 "_law_draws" ["_law_cell_here", "_law_k", "_law_sizes"] (spDraws K) := by
  refine T.f__law_draws.ok c__law_draws (fun vs H Q E h => ?_) (fun f cdv A outer s H vs Q E hr h => ?_)
  · obtain ⟨z, k, p, ss, rfl, _⟩ := h
    rfl
  · obtain ⟨z, k, p, ss, rfl, hS, l100, hm, q⟩ := h
    refine ⟨_, (pss_cons (ps_set (i := 3) c__law_draws.nd rfl (Or.inl rfl) (pe_callB call_abs (by rfl) T.b_abs (by decide +kernel) (pa_cons (pv 0) pa_nil)))
(pss_cons (ps_set (i := 4) c__law_draws.nd rfl (Or.inl rfl) (pe_cmpR op_ge (pv 3) (pe_op op_pow pe_int pe_int) (nomark _)))
(pss_cons (ps_set (i := 5) c__law_draws.nd rfl (Or.inl rfl) (pe_op op_mod (pe_op op_mul (pe_op op_add (pe_op op_add (pe_op op_mod (pv 3) pe_int) (pe_op op_mul pe_int (pv 1))) pe_int) pe_int) pe_int))
(pss_cons (ps_set (i := 6) c__law_draws.nd rfl (Or.inl rfl) (pe_lst pa_nil))
(pss_cons (ps_for PassesOwn.never rfl (pi_enum (by rfl) T.b_enumerate (pa_cons (pv 2) pa_nil)) (pg_tup_k K (n := 2) rfl (pgs_cons (pg_name (i := 7) c__law_draws.nd rfl (Or.inl rfl)) (pgs_cons (pg_name (i := 8) c__law_draws.nd rfl (Or.inl rfl)) pgs_nil)))
(pss_one (ps_if (pt_val (pv 4))
(pss_cons (ps_expr (pe_bm PySem.F.plainAttrs_list PySem.F.slot_list_append PySem.F.type_list_append mt_append (pv 6) (pa_cons (pe_op op_mod (pv 3) (pv 8)) pa_nil)))
(pss_one (ps_set (i := 3) c__law_draws.nd rfl (Or.inl rfl) (pe_op op_fdivW (pv 3) (pv 8)))))
(pss_cons (ps_set (i := 5) c__law_draws.nd rfl (Or.inl rfl) (pe_op op_mod (pe_op op_add (pe_op op_add (pe_op op_mul (pv 5) (pv 5)) (pe_op op_mul pe_int (pe_op op_add (pv 1) (pv 7)))) pe_int) pe_int))
(pss_one (ps_expr (pe_bm PySem.F.plainAttrs_list PySem.F.slot_list_append PySem.F.type_list_append mt_append (pv 6) (pa_cons (pe_op op_mod (pe_op op_fdivW (pv 5) pe_int) (pv 8)) pa_nil))))))))
(pss_one (ps_ret (pv 6)))))))), ?_⟩
    refine ⟨_, rfl, _, rfl, ?_⟩
    rw [abs_if]
    have n0 : (0 : Int) ≤ (z.natAbs : Int) := by omega
    generalize (z.natAbs : Int) = n at n0 ⊢
    refine ⟨_, rfl, _, _, rfl, rfl, ⟨by decide, by decide, by decide⟩, _, _, rfl, rfl, ?_⟩
    refine ⟨_, rfl, _, _, rfl, rfl, (by show (0 : Int) < 1000000007; decide), _, rfl, _, _, rfl, rfl, .inl ⟨by decide, by decide⟩, _, _, rfl, rfl, _, _, rfl, rfl, _, _, rfl, rfl, .inr ⟨by decide, by decide⟩, _, _, rfl, rfl, (by show (0 : Int) < 2147483629; decide), ?_⟩
    have b0 : 0 ≤ ((n % 1000000007 + 7919 * k + 1) * 48271) % 2147483629 := Int.emod_nonneg _ (by decide)
    have b1 : ((n % 1000000007 + 7919 * k + 1) * 48271) % 2147483629 < 2147483629 := Int.emod_lt_of_pos _ (by decide)
    refine ⟨(by show 0 ≤ sizeLine; decide), fun qa hq => ?_⟩
    have u0 := Same.upd (o := .lst []) hq
    refine ⟨_, rfl, p, _, rfl, u0.seq hS, for_it walk_enum (fun i σ H' => Same H H' ∧ ∃ (n x : Int) (g : Bool) (rs : List Int) (v7 v8 : Option V), σ = [some (.int z), some (.int k), some (.ref p), some (.int n), some (.bl g), some (.int x), some (.ref qa), v7, v8] ∧ 0 ≤ n ∧ 0 ≤ x ∧ x < 2147483629 ∧ H' qa = some (.lst (rs.map V.int)) ∧ Drawn (ss.take i) rs)
      ⟨u0, n, _, _, [], _, _, rfl, n0, b0, b1, upd_same, ⟨by simp, fun i r m h => by simp at h⟩⟩ (fun i σ H' _ h => h.1.seq hS) ?_ ?_⟩
    · rintro i y σ H' H'' hi ⟨s2, n, x, g, rs, v7, v8, rfl, n0, b0, b1, hrs, dr⟩ ⟨tp, y1, y2, rfl, htp, rfl, hy1, hy2⟩
      injection hy1 with hy1
      subst hy1
      have hy2 : (ss.map V.int)[i]? = some y2 := hy2
      rw [List.getElem?_map] at hy2
      obtain ⟨m, hm1, rfl⟩ : ∃ m, ss[i]? = some m ∧ y2 = .int m := by
        cases q9 : ss[i]? with
        | none => rw [q9] at hy2; cases hy2
        | some c => rw [q9] at hy2; exact ⟨c, rfl, (Option.some.inj hy2).symm⟩
      obtain ⟨m0, m9⟩ := hm m (List.mem_of_getElem? hm1)
      have i100 : i < 100 := Nat.lt_of_lt_of_le (List.getElem?_eq_some_iff.mp hm1).1 l100
      have lr : rs.length = i := by
        rw [dr.len, List.length_take]
        have := (List.getElem?_eq_some_iff.mp hm1).1
        omega
      have s3 := Same.upd (o := .tup [V.int (i : Nat), V.int m]) htp
      have s03 := s2.trans s3
      have hrs3 := s3 _ _ hrs
      have dr' : ∀ r : Int, 0 ≤ r → r < m → Drawn (ss.take (i + 1)) (rs ++ [r]) := fun r r0 r1 => by
        rw [take_more hm1]
        refine ⟨by rw [List.length_append, List.length_append, dr.len]; rfl, fun j a b ha hb => ?_⟩
        by_cases hj : j < i
        · rw [List.getElem?_append_left (by omega)] at ha
          rw [List.getElem?_append_left (by rw [← dr.len]; omega)] at hb
          exact dr.lt j a b ha hb
        · have hj : j = i := by
            have h1 := (List.getElem?_eq_some_iff.mp ha).1
            rw [List.length_append] at h1
            have h1 : j < rs.length + 1 := h1
            omega
          subst hj
          rw [List.getElem?_append_right (by omega), lr, Nat.sub_self] at ha
          rw [List.getElem?_append_right (by rw [← dr.len]; omega), ← dr.len, lr, Nat.sub_self] at hb
          injection ha with ha
          injection hb with hb
          subst ha
          subst hb
          exact ⟨r0, r1⟩
      have fin : ∀ r : Int, (upd (upd H' tp (.tup [V.int (i : Nat), V.int m])) qa (.lst (rs.map V.int ++ [V.int r]))) qa = some (.lst ((rs ++ [r]).map V.int)) := fun r => by
        rw [upd_same, List.map_append]
        rfl
      have sfin : ∀ o : HO, Same H (upd (upd H' tp (.tup [V.int (i : Nat), V.int m])) qa o) := fun o => by
        intro b o' hb
        rw [upd_ne (ne_of_none hb hq)]
        exact s03 _ _ hb
      have sz : (rs.map V.int).length < sizeLine := by
        rw [List.length_map]
        exact small1000 (by omega)
      refine ⟨tp, _, rfl, SqT.of upd_same, rfl, _, _, rfl, _, _, rfl, rfl, ?_⟩
      refine ⟨_, rfl, _, rfl, itb (fun e => ?_) fun e => ?_⟩
      · refine ⟨_, rfl, .inl ⟨rfl, _, SqL.of hrs3⟩, _, rfl, _, rfl, _, _, rfl, rfl, m0, qa, _, _, rfl, rfl, hrs3, sz, ?_⟩
        refine ⟨_, rfl, _, rfl, _, _, rfl, rfl, ⟨m0, log_le 1000000000 (by omega)⟩, sfin _, _, x, g, rs ++ [n % m], _, _, rfl, Int.ediv_nonneg n0 (by omega), b0, b1, fin _, dr' _ (Int.emod_nonneg _ (by omega)) (Int.emod_lt_of_pos _ m0)⟩
      · refine ⟨_, rfl, _, rfl, _, _, rfl, rfl, .inl ⟨by omega, by omega⟩, _, rfl, _, rfl, _, _, rfl, rfl, _, _, rfl, rfl, .inl ⟨by decide, by decide⟩, _, _, rfl, rfl, _, _, rfl, rfl, _, _, rfl, rfl, (by show (0 : Int) < 2147483587; decide), ?_⟩
        have c0 : 0 ≤ (x * x + 104729 * (k + (i : Int)) + 11) % 2147483587 := Int.emod_nonneg _ (by decide)
        have c1 : (x * x + 104729 * (k + (i : Int)) + 11) % 2147483587 < 2147483587 := Int.emod_lt_of_pos _ (by decide)
        refine ⟨_, rfl, .inl ⟨rfl, _, SqL.of hrs3⟩, _, rfl, _, _, rfl, rfl, ⟨by decide, by decide⟩, _, rfl, _, _, rfl, rfl, m0, qa, _, _, rfl, rfl, hrs3, sz, ?_⟩
        exact ⟨sfin _, n, _, g, rs ++ [(x * x + 104729 * (k + (i : Int)) + 11) % 2147483587 / 16 % m], _, _, rfl, n0, c0, by omega, fin _, dr' _ (Int.emod_nonneg _ (by omega)) (Int.emod_lt_of_pos _ m0)⟩
    · rintro σ H' ⟨s2, n, x, g, rs, v7, v8, rfl, n0, b0, b1, hrs, dr⟩
      rw [List.length_map, List.take_length] at dr
      exact ⟨_, rfl, q qa rs H' hq s2 hrs dr⟩
end
end Dear

namespace Dear
open PySem PySem.Spec PyProof.Rows L2
section
variable {P : Program} {w : World} {K : PySem.W.Frag} {mg : Str → Option Value} {base : Heap}
/-- author C's _law_low -/
theorem o__law_low (T : Txt K mg) : OkF P w K mg base CX0 1 "_law_low" ["_law_top", "_law_bottom"] spLowest := by
  refine T.f__law_low.ok c__law_low (fun vs H Q E h => ?_) (fun f cdv A outer s H vs Q E hr h => ?_)
  · obtain ⟨t, b, rfl, _⟩ := h
    rfl
  · obtain ⟨t, b, rfl, hb, hl, k⟩ := h
    refine ⟨_, (pss_cons (ps_par (by rfl) c__law_low.nd (i := 2) (j := 3) rfl rfl (by decide) rfl rfl (pa_cons (pe_callB call_abs (by rfl) T.b_abs (by decide +kernel) (pa_cons (pv 0) pa_nil)) (pa_cons (pv 1) pa_nil)) (by rfl))
(pss_cons (ps_while PassesOwn.never (pt_cmpR op_gt (pv 3) pe_int (nomark _))
(pss_one (ps_par (by rfl) c__law_low.nd (i := 2) (j := 3) rfl rfl (by decide) rfl rfl (pa_cons (pv 3) (pa_cons (pe_op op_mod (pv 2) (pv 3)) pa_nil)) (by rfl))))
(pss_one (ps_ret (pe_tup (pa_cons (pe_op op_fdivW (pv 0) (pv 2)) (pa_cons (pe_op op_fdivW (pv 1) (pv 2)) pa_nil))))))), ?_⟩
    refine ⟨_, rfl, _, rfl, _, rfl, _, _, rfl, ?_⟩
    rw [abs_if]
    refine while_by (fun σ H' => H' = H ∧ ∃ x y : Int, σ = [some (.int t), some (.int b), some (.int x), some (.int y)] ∧ 0 ≤ x ∧ 0 ≤ y ∧ Int.gcd x y = Int.gcd b t) (fun σ _ => match σ with | [_, _, _, some (.int y)] => y.toNat | _ => 0) ⟨rfl, _, b, rfl, by omega, by omega, by rw [Int.gcd_comm, gcd_abs]⟩ ?_ ?_
    · rintro σ H' ⟨rfl, x, y, rfl, hx, hy, e⟩
      refine ⟨_, rfl, _, _, rfl, rfl, _, rfl, itd (fun c => ?_) fun c => ?_⟩
      · refine ⟨_, rfl, _, rfl, _, rfl, _, _, rfl, rfl, c, _, _, rfl, ⟨rfl, y, x % y, rfl, hy, Int.emod_nonneg _ (by omega), ?_⟩, ?_⟩
        · rw [gcd_step hx c]
          exact e
        · show (x % y).toNat < y.toNat
          have := Int.emod_lt_of_pos x c
          omega
      · have c : y = 0 := by omega
        subst c
        rw [Int.gcd_zero_right] at e
        have e2 : x = ((Int.gcd b t : Nat) : Int) := by omega
        subst e2
        refine ⟨_, rfl, _, rfl, _, _, rfl, rfl, ⟨gcd_pos t hb, gcd_log t hb hl⟩, _, rfl, _, rfl, _, _, rfl, rfl, ⟨gcd_pos t hb, gcd_log t hb hl⟩, (by show 2 ≤ sizeLine; decide), fun p hp => ?_⟩
        exact k p _ hp (Same.upd hp) upd_same
    · rintro σ H Q Q' hq ⟨v, e1, i1, j1, e2, e3, x, e4, q⟩
      exact ⟨v, e1, i1, j1, e2, e3, x, e4, hq _ _ q⟩
end
end Dear

namespace Dear
open PySem PySem.Spec PyProof.Rows L2
def spWant : Sp := fun vs H Q _ => ∃ (v : V) (d : D), vs = [v] ∧ Dt H v d ∧ Ok d ∧ ∀ H', Same H H' → Q (.bl (isWant d)) H'
/-- None of good ones, else refused with the number of the first that can't stand -/
def spLookW (C : Addr) : Sp := fun vs H Q E => ∃ (v : V) (d : D), vs = [v] ∧ Dt H v d ∧ Ok d ∧ (wantsBad d = none → ∀ H', Same H H' → Q .non H') ∧
  ∀ u, wantsBad d = some u → ∀ (dd : Addr) (H' : Hp), Same H H' → H dd = none → H' dd = some (.xd [("number", u)]) → E (.ref C) (some dd) H'
theorem isWant_len : ∀ {ds : List D}, ds.length ≠ 2 → isWant (.tup ds) = false
  | [], _ => rfl
  | [d], _ => by cases d <;> rfl
  | [_, _], h => absurd rfl h
  | d :: e :: _ :: _, _ => by cases d <;> cases e <;> rfl
def cntOk : D → Bool
  | .int c => decide (0 ≤ c ∧ c ≤ 1000000000)
  | _ => false
theorem isWant_two (a b : D) : isWant (.tup [a, b]) = (isNm a && (isInt b && cntOk b)) := by
  cases b <;> simp [isWant, isInt, cntOk]
/-- what a want is -/
theorem isWant_shape {d : D} (h : isWant d = true) : ∃ (z : Str) (c : Int), d = .tup [.str z, .int c] ∧ isNm (.str z) = true := by
  match d, h with
  | .tup [a, .int c], h =>
    have h : (isNm a && decide (0 ≤ c ∧ c ≤ 1000000000)) = true := h
    rw [Bool.and_eq_true] at h
    cases a with
    | str z => exact ⟨z, c, rfl, h.1⟩
    | _ => cases h.1
section
variable {P : Program} {w : World} {K : PySem.W.Frag} {mg : Str → Option Value} {base : Heap}
theorem o_is_want (T : Txt K mg) : OkF P w K mg base CX0 2 "is_want" ["thing"] spWant := by
  have o_is_whole := o_is_whole (P := P) (w := w) (base := base) T
  have o_is_name := o_is_name (P := P) (w := w) (base := base) T
  refine T.f_is_want.ok c_is_want (fun vs H Q E h => ?_) (fun f cdv A outer s H vs Q E hr h => ?_)
  · obtain ⟨v, n, rfl, _⟩ := h
    rfl
  · obtain ⟨v, d, rfl, hI, ok, k⟩ := h
    refine ⟨_, (pss_cons (ps_if (PW.pt (pw_or (pt_not (pt_val (pe_callB (call_isi_k K) (by rfl) T.b_isinstance (by decide +kernel) (pa_cons (pv 0) (pa_cons (pe_bltn (v := .ty "tuple") (by rfl) T.b_tuple (by decide +kernel) rfl) pa_nil))))) (pw_or (pt_cmpR op_ne (pe_callB (call_len_seq_k K) (by rfl) T.b_len PySem.boot_len (pa_cons (pv 0) pa_nil)) pe_int (nomark _)) (pw_or1 (pt_not (pt_val (pe_c o_is_name hr (pa_cons (pe_ix (ix_tup_k K) (pv 0) pe_int (fun _ _ => rfl)) pa_nil))))))))
(pss_one (ps_ret pe_bl))
pss_nil)
(pss_one (ps_ret (pe_and (pe_c o_is_whole hr (pa_cons (pe_ix (ix_tup_k K) (pv 0) pe_int (fun _ _ => rfl)) pa_nil)) (pe_one (pe_chain op_le op_le pe_int (pe_ix (ix_tup_k K) (pv 0) pe_int (fun _ _ => rfl)) (pe_gi T.g_GREATEST_COUNT))))))), ?_⟩
    refine ⟨_, rfl, _, _, _, _, _, rfl, .ty _, hI.ty, kit_ty (kd_tuple d), _, rfl, ?_⟩
    cases hI with
    | tup ha hall =>
      rename_i a xs ds
      refine iteF ⟨_, rfl, _, _, rfl, .inr (SqT.of ha), rfl, _, rfl, ?_⟩
      by_cases hl : xs.length = 2
      · have e2 : decide (V.int ((xs.length : Nat) : Int) = V.int 2) = true := by rw [hl]; decide
        rw [e2]
        refine iteF ?_
        match xs, ds, hall, hl with
        | [x, y], _, .cons (d := d1) h1 (.cons (d := d2) h2 .nil), _ =>
          have ok : Ok d1 ∧ Ok d2 ∧ True := ok
          rw [isWant_two] at k
          refine ⟨_, rfl, _, _, _, _, rfl, rfl, SqT.of ha, rfl, x, d1, rfl, h1, ok.1, fun H1 s1 => ⟨_, rfl, ?_⟩⟩
          cases e1 : isNm d1 with
          | false =>
            rw [e1] at k
            exact iteT (k _ s1)
          | true =>
            rw [e1] at k
            have h2' := h2.same s1
            refine iteF ⟨_, rfl, _, _, _, _, rfl, rfl, SqT.of (s1 _ _ ha), rfl, y, d2, rfl, h2', _, rfl, ?_⟩
            cases h2' with
            | int c =>
              refine iteT ⟨_, rfl, _, _, _, _, rfl, rfl, SqT.of (s1 _ _ ha), rfl, _, _, rfl, rfl, _, rfl, itd (fun c1 => ?_) fun c1 => ?_⟩
              · refine ⟨_, _, rfl, rfl, ?_⟩
                have fin := k _ s1
                have e3 : (true && (isInt (.int c) && decide (0 ≤ c ∧ c ≤ 1000000000))) = decide (c ≤ 1000000000) := by
                  show decide (0 ≤ c ∧ c ≤ 1000000000) = _
                  exact decide_eq_decide.mpr ⟨fun h => h.2, fun h => ⟨c1, h⟩⟩
                have fin : Q (.bl (true && (isInt (.int c) && decide (0 ≤ c ∧ c ≤ 1000000000)))) H1 := fin
                rw [e3] at fin
                exact fin
              · have fin : Q (.bl (true && (isInt (.int c) && decide (0 ≤ c ∧ c ≤ 1000000000)))) H1 := k _ s1
                rw [decide_eq_false fun z => c1 z.1] at fin
                exact fin
            | _ => exact iteF (k _ s1)
      · have e2 : decide (V.int ((xs.length : Nat) : Int) = V.int 2) = false := decide_eq_false fun z => hl (by injection z with z; omega)
        rw [e2]
        refine iteT ?_
        rw [isWant_len (by rw [← hall.length]; exact hl)] at k
        exact k H (Same.refl H)
    | _ => exact iteT (k H (Same.refl H))
/-- the names seen so far, as the dict holds them -/
def SeenK (seen : List Str) (kvs : List (Key × V)) : Prop := (∀ z : Str, (valV kvs (Sum.inr z)).isSome = decide (z ∈ seen)) ∧ kvs.length ≤ seen.length
theorem SeenK.put {seen : List Str} {kvs : List (Key × V)} {z : Str} {v : V} (h : SeenK seen kvs) : SeenK (seen ++ [z]) (putK kvs (Sum.inr z) v) := by
  constructor
  · intro y
    by_cases e : y = z
    · subst e
      rw [valV_put, if_pos rfl]
      simp
    · rw [valV_put, if_neg (by intro q; injection q with q; exact e q), h.1 y]
      refine decide_eq_decide.mpr ⟨fun q => List.mem_append_left _ q, fun q => ?_⟩
      rcases List.mem_append.mp q with q | q
      · exact q
      · exact absurd (by simpa using q) e
  · have := length_putK kvs (Sum.inr z) v
    rw [List.length_append]
    show _ ≤ _ + 1
    have h2 := h.2
    omega
theorem bad_step {d : D} {r : List D} {i : Nat} {seen : List Str} : badAt i seen (d :: r) = if isWant d && !decide (nameD d ∈ seen) then badAt (i + 1) (seen ++ [nameD d]) r else some (.int (i : Nat)) := rfl
theorem o_look_at_wants (T : Txt K mg) : OkF P w K mg base (L2.CX P w) 4 "look_at_wants" ["thing"] (spLookW T.A.NoWants) := by
  have o_is_want := o_is_want (P := P) (w := w) (base := base) T
  have oi_NoWants := oi_NoWants (P := P) (w := w) (base := base) T
  refine T.f_look_at_wants.okX c_look_at_wants (fun vs H Q E h => ?_) (fun f cdv A outer s H vs Q E hr h => ?_)
  · obtain ⟨v, d, rfl, _⟩ := h
    rfl
  · obtain ⟨v, d, rfl, hI, ok, k, kE⟩ := h
    refine ⟨_, (pss_cons (ps_if (PW.pt (pw_or (pt_not (pt_val (pe_callB (call_isi_k K) (by rfl) T.b_isinstance (by decide +kernel) (pa_cons (pv 0) (pa_cons (pe_bltn (v := .ty "list") (by rfl) T.b_list (by decide +kernel) rfl) pa_nil))))) (pw_or1 (pt_not (pt_chain op_le op_le pe_int (pe_callB (call_len_seq_k K) (by rfl) T.b_len PySem.boot_len (pa_cons (pv 0) pa_nil)) (pe_gi T.g_MOST_THINGS))))))
(pss_one (ps_raise rfl (takes_of rfl rfl rfl rfl) (pmk_i oi_NoWants hr (pa_cons pe_non pa_nil))))
pss_nil)
(pss_cons (ps_set (i := 1) c_look_at_wants.nd rfl (Or.inl rfl) pe_dnewK)
(pss_one (ps_for (passes_of rfl) rfl (pi_enum (by rfl) T.b_enumerate (pa_cons (pv 0) pa_nil)) (pg_tup_k K (n := 2) rfl (pgs_cons (pg_name (i := 2) c_look_at_wants.nd rfl (Or.inl rfl)) (pgs_cons (pg_name (i := 3) c_look_at_wants.nd rfl (Or.inl rfl)) pgs_nil)))
(pss_cons (ps_if (PW.pt (pw_or (pt_not (pt_val (pe_c o_is_want hr (pa_cons (pv 3) pa_nil)))) (pw_or1 (pt_cmp (pc_din (u1 hr.units) (pe_ix (ix_tup_k K) (pv 3) pe_int (fun _ _ => rfl)) (pv 1))))))
(pss_one (ps_raise rfl (takes_of rfl rfl rfl rfl) (pmk_i oi_NoWants hr (pa_cons (pv 2) pa_nil))))
pss_nil)
(pss_one (ps_dput (u1 hr.units) (pv 1) (pe_ix (ix_tup_k K) (pv 3) pe_int (fun _ _ => rfl)) pe_bl rfl))))))), ?_⟩
    refine ⟨_, rfl, _, _, _, _, _, rfl, .ty _, hI.ty, kit_ty (kd_list d), _, rfl, ?_⟩
    have no : wantsBad d = some .non → ∀ dd : Addr, H dd = none → E (.ref T.A.NoWants) (some dd) (upd H dd (.xd [("number", .non)])) := fun e dd hd => kE _ e dd _ (Same.upd hd) hd upd_same
    cases hI with
    | lst ha hall =>
      rename_i a xs ds
      have hl := hall.length
      refine iteF ⟨_, rfl, _, _, rfl, .inl (SqL.of ha), _, _, rfl, rfl, _, rfl, itd (fun c1 => ?_) fun c1 => ?_⟩
      · refine ⟨_, _, rfl, rfl, _, rfl, itnd (fun c2 => ?_) fun c2 => ?_⟩
        · exact mkx T.X_NoWants (.inl rfl) (no (if_neg (by omega)))
        have e0 : wantsBad (.lst ds) = badAt 0 [] ds := if_pos (by omega)
        rw [e0] at k kE
        refine fun nd hn => ?_
        have s1 := Same.upd (o := .dK []) hn
        have e1 : (upd H nd (.dK [])) nd = some (.dK []) := upd_same
        generalize upd H nd (.dK []) = H1 at s1 e1 ⊢
        refine ⟨_, rfl, a, xs, rfl, SqL.of (s1 _ _ ha), for_it walk_enum (fun i σ H' => Same H H' ∧ ∃ (seen : List Str) (kvs : List (Key × V)) (v2 v3 : Option V), σ = [some (.ref a), some (.ref nd), v2, v3] ∧ H' nd = some (.dK kvs) ∧ SeenK seen kvs ∧ seen.length = i ∧ badAt 0 [] ds = badAt i seen (ds.drop i))
          ⟨s1, [], [], _, _, rfl, e1, ⟨fun z => rfl, Nat.le_refl _⟩, rfl, rfl⟩ (fun i σ H' _ h => SqL.of (h.1 _ _ ha)) ?_ ?_⟩
        · rintro i x σ H' H'' hi ⟨s2, seen, kvs, v2, v3, rfl, hk, sk, sl, hb⟩ ⟨tp, y1, y2, rfl, htp, rfl, hy1, hy2⟩
          injection hy1 with hy1
          subst hy1
          have i20 : i < 20 := by omega
          obtain ⟨d1, hd1, hD1⟩ := hall.get hy2
          have okd : Ok d1 := OkAll.mem ok (List.mem_of_getElem? hd1)
          have hdr : ds.drop i = d1 :: ds.drop (i + 1) := by
            obtain ⟨hlt, e1⟩ := List.getElem?_eq_some_iff.mp hd1
            rw [List.drop_eq_getElem_cons hlt, e1]
          rw [hdr, bad_step] at hb
          have s3 := Same.upd (o := .tup [V.int (i : Nat), y2]) htp
          have s03 := s2.trans s3
          refine ⟨tp, _, rfl, SqT.of upd_same, rfl, _, _, rfl, _, _, rfl, rfl, ?_⟩
          refine ⟨_, rfl, y2, d1, rfl, hD1.same s03, okd, fun H4 s4 => ⟨_, rfl, ?_⟩⟩
          have s04 := s03.trans s4
          have bad : (isWant d1 && !decide (nameD d1 ∈ seen)) = false → ∀ dd : Addr, H4 dd = none → E (.ref T.A.NoWants) (some dd) (upd H4 dd (.xd [("number", .int (i : Nat))])) := fun e dd hd => by
            rw [e] at hb
            have hb : badAt 0 [] ds = some (.int (i : Nat)) := hb
            exact kE _ hb dd _ (s04.trans (Same.upd hd)) (by
              cases q : H dd with
              | none => rfl
              | some o =>
                rw [s04 _ _ q] at hd
                cases hd) upd_same
          cases e : isWant d1 with
          | false =>
            refine iteT ⟨_, rfl, mkx T.X_NoWants (.inr (.inr ⟨_, rfl, ?_⟩)) (bad (by rw [e]; rfl))⟩
            exact Nat.lt_of_lt_of_le (show ((i : Nat) : Int).natAbs < 2 ^ 20 by omega) (by decide)
          | true =>
            obtain ⟨z, c, rfl, hz⟩ := isWant_shape e
            refine iteF ?_
            have hy4 := (hD1.same s04)
            cases hy4 with
            | tup hat hal =>
              cases hal with
              | cons h1 hal =>
                cases h1
                rename_i vs9
                obtain ⟨v9, rfl⟩ : ∃ v9, vs9 = [v9] := by
                  cases hal with
                  | cons h2 hal =>
                    cases hal
                    exact ⟨_, rfl⟩
                have hk4 := s4 _ _ (s3 _ _ hk)
                have vz : (valV kvs (Sum.inr z)).isSome = decide (z ∈ seen) := sk.1 z
                refine ⟨_, rfl, _, _, _, V.str z, rfl, rfl, SqT.of hat, rfl, _, rfl, nd, _, rfl, .inl ⟨_, Sum.inr z, .of hk4, rfl, rfl⟩, ?_⟩
                have bad : decide (z ∈ seen) = true → ∀ dd : Addr, H4 dd = none → E (.ref T.A.NoWants) (some dd) (upd H4 dd (.xd [("number", .int (i : Nat))])) := fun e9 => bad (by
                  rw [e]
                  show (true && !decide (z ∈ seen)) = false
                  rw [e9]
                  rfl)
                have go : decide (z ∈ seen) = false → badAt 0 [] ds = badAt (i + 1) (seen ++ [z]) (ds.drop (i + 1)) := fun e9 => by
                  rw [hb, e]
                  show (if (true && !decide (z ∈ seen)) = true then _ else _) = _
                  rw [e9]
                  rfl
                cases ev : valV kvs (Sum.inr z) with
                | some u =>
                  rw [ev] at vz
                  refine ⟨_, rfl, iteT ⟨_, rfl, mkx T.X_NoWants (.inr (.inr ⟨_, rfl, ?_⟩)) (bad vz.symm)⟩⟩
                  exact Nat.lt_of_lt_of_le (show ((i : Nat) : Int).natAbs < 2 ^ 20 by omega) (by decide)
                | none =>
                  rw [ev] at vz
                  refine ⟨_, rfl, iteF ⟨_, rfl, _, rfl, _, _, _, V.str z, rfl, rfl, SqT.of hat, rfl, nd, _, rfl, DPut.k (k := Sum.inr z) hk4 (small1000 (by have := sk.2; omega)), ?_, seen ++ [z], putK kvs (Sum.inr z) (.bl true), _, _, rfl, upd_same, sk.put, ?_, go vz.symm⟩⟩
                  · intro b o hbo
                    rw [upd_ne (ne_of_none hbo hn)]
                    exact s04 _ _ hbo
                  · rw [List.length_append, sl]
                    rfl
        · rintro σ H' ⟨s2, seen, kvs, v2, v3, rfl, hk, sk, sl, hb⟩
          rw [List.drop_of_length_le (by omega)] at hb
          exact k hb H' s2
      · exact ⟨_, rfl, iteT (mkx T.X_NoWants (.inl rfl) (no (if_neg (by omega))))⟩
    | _ => exact iteT (mkx T.X_NoWants (.inl rfl) (no rfl))
end
end Dear

namespace Dear
open PySem PySem.Spec PyProof.Rows L2
section
variable {P : Program} {w : World} {K : PySem.W.Frag} {mg : Str → Option Value} {base : Heap}
theorem o_is_price (T : Txt K mg) : OkF P w K mg base CX0 3 "is_price" ["thing"] spPrice := by
  have o_is_fraction := o_is_fraction (P := P) (w := w) (base := base) T
  refine T.f_is_price.ok c_is_price (fun vs H Q E h => ?_) (fun f cdv A outer s H vs Q E hr h => ?_)
  · obtain ⟨v, n, rfl, _⟩ := h
    rfl
  · obtain ⟨v, d, rfl, hI, ok, k⟩ := h
    refine ⟨_, (pss_one (ps_ret (pe_and (pe_c o_is_fraction hr (pa_cons (pv 0) pa_nil)) (pe_one (pe_cmpR op_gt (pe_ix (ix_tup_k K) (pv 0) pe_int (fun _ _ => rfl)) pe_int (nomark _)))))), ?_⟩
    refine ⟨_, rfl, v, d, rfl, hI, ok, fun H1 s1 => ⟨_, rfl, itb (fun e => ?_) fun e => ?_⟩⟩
    · obtain ⟨t, b, rfl, hb⟩ := fr_shape e
      cases hI with
      | tup ha hall =>
        cases hall with
        | cons h1 hr1 =>
          cases h1
          cases hr1 with
          | cons h2 h3 =>
          cases h2
          cases h3
          have e2 : isPrice (.tup [.int t, .int b]) = decide (0 < t) := by
            unfold isPrice
            rw [e, Bool.true_and]
            rfl
          rw [e2] at k
          exact ⟨_, rfl, _, _, _, _, rfl, rfl, SqT.of (s1 _ _ ha), rfl, _, _, rfl, rfl, k _ s1⟩
    · have e2 : isPrice d = false := by
        unfold isPrice
        rw [e, Bool.false_and]
      rw [e2] at k
      exact k _ s1
theorem o_is_letter (T : Txt K mg) : OkF P w K mg base CX0 1 "is_letter" ["thing"] spLetter := by
  refine T.f_is_letter.ok c_is_letter (fun vs H Q E h => ?_) (fun f cdv A outer s H vs Q E hr h => ?_)
  · obtain ⟨v, n, rfl, _⟩ := h
    rfl
  · obtain ⟨v, d, rfl, hI, ok, k⟩ := h
    refine ⟨_, (pss_one (ps_ret (pe_and (pe_callB (call_isi_k K) (by rfl) T.b_isinstance (by decide +kernel) (pa_cons (pv 0) (pa_cons (pe_bltn (v := .ty "str") (by rfl) T.b_str (by decide +kernel) rfl) pa_nil))) (pe_and (pe_cmpR op_eq (pe_callB call_len_str (by rfl) T.b_len PySem.boot_len (pa_cons (pv 0) pa_nil)) pe_int (nomark _)) (pe_one (pe_cmpR op_in_sign (pv 0) (pe_gs T.g_LETTERS_tongues) rfl)))))), ?_⟩
    refine ⟨_, rfl, _, _, _, _, _, rfl, .ty _, hI.ty, kit_ty (kd_str d), _, rfl, ?_⟩
    cases hI with
    | str z =>
      have hz : z.length ≤ sizeLine := Nat.le_trans ok.1 (by decide)
      refine iteT ⟨_, rfl, _, rfl, hz, rfl, _, rfl, itb (fun e => ?_) fun e => ?_⟩
      · have e1 : z.length = 1 := by
          have := of_decide_eq_true e
          injection this with this
          omega
        obtain ⟨c, rfl⟩ := str_one e1
        have e2 : isLetter (.str ⟨#[c]⟩) = decide (c ∈ letters.cps.toList) := by
          show ((⟨#[c]⟩ : Str).length == 1 && _) = _
          have : ((⟨#[c]⟩ : Str).length == 1) = true := rfl
          rw [this, Bool.true_and]
          simp
        rw [e2] at k
        exact ⟨_, rfl, _, _, rfl, rfl, k⟩
      · have e2 : isLetter (.str z) = false := by
          have n1 : ¬ z.length = 1 := fun q => by
            rw [q] at e
            cases e
          show (z.length == 1 && _) = _
          have : (z.length == 1) = false := by simpa using n1
          rw [this, Bool.false_and]
        rw [e2] at k
        exact k
    | _ => exact iteF k
theorem o_is_sign (T : Txt K mg) : OkF P w K mg base CX0 4 "is_sign" ["thing"] spSign := by
  have o_is_letter := o_is_letter (P := P) (w := w) (base := base) T
  have o_is_price := o_is_price (P := P) (w := w) (base := base) T
  refine T.f_is_sign.ok c_is_sign (fun vs H Q E h => ?_) (fun f cdv A outer s H vs Q E hr h => ?_)
  · obtain ⟨v, n, rfl, _⟩ := h
    rfl
  · obtain ⟨v, d, rfl, hI, ok, k⟩ := h
    refine ⟨_, (pss_cons (ps_if (PW.pt (pw_or (pt_not (pt_val (pe_callB (call_isi_k K) (by rfl) T.b_isinstance (by decide +kernel) (pa_cons (pv 0) (pa_cons (pe_bltn (v := .ty "tuple") (by rfl) T.b_tuple (by decide +kernel) rfl) pa_nil))))) (pw_or1 (pt_cmpR op_ne (pe_callB (call_len_seq_k K) (by rfl) T.b_len PySem.boot_len (pa_cons (pv 0) pa_nil)) pe_int (nomark _)))))
(pss_one (ps_ret pe_bl))
pss_nil)
(pss_cons (ps_asg (pv 0) (pg_tup_k K (n := 3) rfl (pgs_cons (pg_name (i := 1) c_is_sign.nd rfl (Or.inl rfl)) (pgs_cons (pg_name (i := 2) c_is_sign.nd rfl (Or.inl rfl)) (pgs_cons (pg_name (i := 3) c_is_sign.nd rfl (Or.inl rfl)) pgs_nil)))))
(pss_one (ps_ret (pe_and (pe_c o_is_letter hr (pa_cons (pv 1) pa_nil)) (pe_and (pe_c o_is_price hr (pa_cons (pv 2) pa_nil)) (pe_one (pe_or (pe_cmpR op_isN (pv 3) pe_non (nomark _)) (pe_one (pe_c o_is_price hr (pa_cons (pv 3) pa_nil))))))))))), ?_⟩
    refine ⟨_, rfl, _, _, _, _, _, rfl, .ty _, hI.ty, kit_ty (kd_tuple d), _, rfl, ?_⟩
    cases hI with
    | tup ha hall =>
      rename_i a xs ds
      refine iteF ⟨_, rfl, _, _, rfl, .inr (SqT.of ha), rfl, _, rfl, ?_⟩
      by_cases hl : xs.length = 3
      · have e2 : decide (V.int ((xs.length : Nat) : Int) = V.int 3) = true := by rw [hl]; decide
        rw [e2]
        refine iteF ?_
        match xs, ds, hall, hl, ok, k with
        | [x, y, z], _, .cons (d := d1) h1 (.cons (d := d2) h2 (.cons (d := d3) h3 .nil)), _, ok, k =>
          refine ⟨_, rfl, _, _, rfl, SqT.of ha, rfl, _, _, rfl, _, _, rfl, _, _, rfl, rfl, ?_⟩
          have k : ∀ H', Same H H' → Q (.bl (isLetter d1 && isPrice d2 && (isNon d3 || isPrice d3))) H' := k
          refine ⟨_, rfl, _, _, rfl, h1, ok.1, _, rfl, itb (fun e => ?_) fun e => ?_⟩
          · refine ⟨_, rfl, _, _, rfl, h2, ok.2.1, fun H1 s1 => ⟨_, rfl, itb (fun e' => ?_) fun e' => ?_⟩⟩
            · rw [e, e', Bool.true_and, Bool.true_and] at k
              refine ⟨_, rfl, rfl, _, rfl, ?_⟩
              cases h3 with
              | non => exact iteT (k _ s1)
              | tup ha3 hall3 =>
                refine iteF ⟨_, rfl, _, _, rfl, (Dt.tup ha3 hall3).same s1, ok.2.2.1, fun H2 s2 => ?_⟩
                exact k _ (s1.trans s2)
              | bl b => exact iteF ⟨_, rfl, _, _, rfl, .bl b, ok.2.2.1, fun H2 s2 => k _ (s1.trans s2)⟩
              | int b => exact iteF ⟨_, rfl, _, _, rfl, .int b, ok.2.2.1, fun H2 s2 => k _ (s1.trans s2)⟩
              | str b => exact iteF ⟨_, rfl, _, _, rfl, .str b, ok.2.2.1, fun H2 s2 => k _ (s1.trans s2)⟩
              | lst ha3 hall3 => exact iteF ⟨_, rfl, _, _, rfl, (Dt.lst ha3 hall3).same s1, ok.2.2.1, fun H2 s2 => k _ (s1.trans s2)⟩
              | dct ha3 => exact iteF ⟨_, rfl, _, _, rfl, (Dt.dct ha3).same s1, ok.2.2.1, fun H2 s2 => k _ (s1.trans s2)⟩
            · rw [e', Bool.and_false, Bool.false_and] at k
              exact k _ s1
          · rw [e, Bool.false_and, Bool.false_and] at k
            exact k _ (Same.refl _)
      · have e2 : decide (V.int ((xs.length : Nat) : Int) = V.int 3) = false := by
          rw [dec_int]
          simp only [beq_eq_false_iff_ne, ne_eq]
          omega
        rw [e2]
        refine iteT ?_
        have e3 : isSign (.tup ds) = false := by
          have := hall.length
          match ds, this with
          | [], _ => rfl
          | [_], _ => rfl
          | [_, _], _ => rfl
          | [_, _, _], z => exact absurd z hl
          | _ :: _ :: _ :: _ :: _, _ => rfl
        rw [e3] at k
        exact k _ (Same.refl _)
    | _ => exact iteT (k _ (Same.refl _))
theorem sign_shape {d : D} (h : isSign d = true) : ∃ (z : Str) (p l : D), d = .tup [.str z, p, l] := by
  match d, h with
  | .tup [s, p, l], h =>
    have h : (isLetter s && isPrice p && (isNon l || isPrice l)) = true := h
    simp only [Bool.and_eq_true] at h
    have h1 := h.1.1
    match s, h1 with
    | .str z, _ => exact ⟨z, p, l, rfl⟩
/-- the heads of signs, as they stand -/
theorem heads_get {H : Hp} {xs : List V} {ds : List D} (hall : DtAll H xs ds) (hs : ds.all isSign = true) {i : Nat} {x : V} (hx : xs[i]? = some x) : ∃ (a : Addr) (z : Str) (y1 y2 : V) (p l : D), x = .ref a ∧ H a = some (.tup [.str z, y1, y2]) ∧ ds[i]? = some (.tup [.str z, p, l]) := by
  obtain ⟨d, hd, h⟩ := hall.get hx
  obtain ⟨z, p, l, rfl⟩ := sign_shape (List.all_eq_true.mp hs d (List.mem_of_getElem? hd))
  cases h with
  | tup ha hr =>
    rename_i a ys
    match ys, hr with
    | [_, _, _], .cons (.str _) (.cons _ (.cons _ .nil)) => exact ⟨a, z, _, _, p, l, rfl, ha, hd⟩
theorem take_heads {ds : List D} {i : Nat} {z : Str} {p l : D} (h : ds[i]? = some (.tup [.str z, p, l])) : (ds.take (i + 1)).map headS = (ds.take i).map headS ++ [z] := by
  rw [List.take_succ, h, List.map_append]
  rfl
theorem o_are_signs (T : Txt K mg) : OkF P w K mg base CX0 5 "are_signs" ["thing"] spSigns := by
  have o_is_sign := o_is_sign (P := P) (w := w) (base := base) T
  refine T.f_are_signs.ok c_are_signs (fun vs H Q E h => ?_) (fun f cdv A outer s H vs Q E hr h => ?_)
  · obtain ⟨v, n, rfl, _⟩ := h
    rfl
  · obtain ⟨v, d, rfl, hI, ok, k⟩ := h
    refine ⟨_, (pss_cons (ps_if (PW.pt (pw_or (pt_not (pt_val (pe_callB (call_isi_k K) (by rfl) T.b_isinstance (by decide +kernel) (pa_cons (pv 0) (pa_cons (pe_bltn (v := .ty "list") (by rfl) T.b_list (by decide +kernel) rfl) pa_nil))))) (pw_or1 (pt_not (pt_chain op_le op_le (pe_gi T.g_FEWEST_SIGNS) (pe_callB (call_len_seq_k K) (by rfl) T.b_len PySem.boot_len (pa_cons (pv 0) pa_nil)) (pe_gi T.g_MOST_SIGNS))))))
(pss_one (ps_ret pe_bl))
pss_nil)
(pss_cons (ps_if (pt_not (pt_val (pe_callB (cr_all_k K rfl) (by rfl) T.b_all (by decide +kernel) (pa_cons (pe_lc (own := [("one", 1)]) (g := gName 1) (tt := tYes) (by rfl) c_are_signs.nd (pi_list_k K (pv 0)) (blkOk_by (own := [("one", 1)]) (N := n_are_signs) (sc := defScope s_are_signs) (by decide +kernel)) (fun _ _ _ _ _ => (pg_name (i := 1) c_are_signs.nd rfl (Or.inl rfl))) (fun _ _ _ _ _ => pts_nil) (fun _ _ _ _ _ => (pe_c o_is_sign hr (pa_cons (pv 1) pa_nil)))) pa_nil))))
(pss_one (ps_ret pe_bl))
pss_nil)
(pss_one (ps_ret (pe_cmpR op_eq (pe_lenSetS K rfl T.b_len T.b_set (pe_lc (own := [("one", 1)]) (g := gName 1) (tt := tYes) (by rfl) c_are_signs.nd (pi_list_k K (pv 0)) (blkOk_by (own := [("one", 1)]) (N := n_are_signs) (sc := defScope s_are_signs) (by decide +kernel)) (fun _ _ _ _ _ => (pg_name (i := 1) c_are_signs.nd rfl (Or.inl rfl))) (fun _ _ _ _ _ => pts_nil) (fun _ _ _ _ _ => (pe_ix (ix_tup_k K) (pv 1) pe_int (fun _ _ => rfl))))) (pe_callB (call_len_seq_k K) (by rfl) T.b_len PySem.boot_len (pa_cons (pv 0) pa_nil)) (nomark _)))))), ?_⟩
    refine ⟨_, rfl, _, _, _, _, _, rfl, .ty _, hI.ty, kit_ty (kd_list d), _, rfl, ?_⟩
    cases hI with
    | lst ha hall =>
      rename_i a xs ds
      have hl := hall.length
      have no : ¬ (2 ≤ ds.length ∧ ds.length ≤ 6) → areSigns (.lst ds) = false := fun z => by
        show (decide (2 ≤ ds.length ∧ ds.length ≤ 6) && _ && _) = _
        rw [decide_eq_false z, Bool.false_and, Bool.false_and]
      refine iteF ⟨_, rfl, _, _, rfl, .inl (SqL.of ha), _, _, rfl, rfl, _, rfl, itd (fun c1 => ?_) fun c1 => ?_⟩
      · refine ⟨_, _, rfl, rfl, _, rfl, itnd (fun c2 => ?_) fun c2 => ?_⟩
        · rw [no (by omega)] at k
          exact k _ (Same.refl _)
        · have lim : 2 ≤ ds.length ∧ ds.length ≤ 6 := by omega
          refine ⟨_, rfl, a, rfl, ⟨_, SqL.of ha⟩, fun Dd hD => lc_list (K := K) (a := a) (xs := xs) (fun i H' => Same H H' ∧ H' Dd = some (.lst (((ds.take i).map isSign).map V.bl))) ⟨Same.upd hD, upd_same⟩ (fun i H' _ e => SqL.of (e.1 _ _ ha)) ?_ ?_⟩
          · rintro i x H' hx ⟨s1, e1⟩
            obtain ⟨d1, hd1, h1⟩ := hall.get hx
            refine ⟨rfl, _, rfl, x, d1, rfl, h1.same s1, OkAll.mem ok (List.mem_of_getElem? hd1), fun H2 s2 => ⟨_, s2 _ _ e1, ?_, ?_, ?_⟩⟩
            · rw [List.length_map, List.length_map]
              refine small1000 (Nat.le_trans (List.length_take_le _ _) ?_)
              have := (List.getElem?_eq_some_iff.mp hd1).1
              omega
            · intro b o hb
              rw [upd_ne (ne_of_none hb hD)]
              exact s2 _ _ (s1 _ _ hb)
            · rw [upd_same, List.take_succ, hd1]
              simp
          · rintro H1 ⟨s1, e1⟩
            rw [hl, List.take_length] at e1
            refine ⟨Dd, ds.map isSign, rfl, SqL.of e1, _, rfl, ?_⟩
            have eall : (ds.map isSign).all id = ds.all isSign := by
              rw [List.all_map]
              rfl
            rw [eall]
            cases e2 : ds.all isSign with
            | false =>
              have e3 : areSigns (.lst ds) = false := by
                show (decide (2 ≤ ds.length ∧ ds.length ≤ 6) && ds.all isSign && _) = _
                rw [e2, Bool.and_false, Bool.false_and]
              rw [e3] at k
              exact iteT (k _ s1)
            | true =>
              refine iteF ?_
              refine ⟨_, rfl, a, rfl, ⟨_, SqL.of (s1 _ _ ha)⟩, fun D2 hD2 => lc_list (K := K) (a := a) (xs := xs) (fun i H' => Same H1 H' ∧ H' D2 = some (.lst (((ds.take i).map headS).map V.str))) ⟨Same.upd hD2, upd_same⟩ (fun i H' _ e => SqL.of (e.1 _ _ (s1 _ _ ha))) ?_ ?_⟩
              · rintro i x H' hx ⟨s2, e3⟩
                obtain ⟨q, z, y1, y2, p, l, rfl, hq, hd⟩ := heads_get hall e2 hx
                refine ⟨rfl, _, rfl, _, _, _, _, rfl, rfl, SqT.of (s2 _ _ (s1 _ _ hq)), rfl, _, e3, ?_, ?_, ?_⟩
                · rw [List.length_map, List.length_map]
                  refine small1000 (Nat.le_trans (List.length_take_le _ _) ?_)
                  have := (List.getElem?_eq_some_iff.mp hd).1
                  omega
                · intro b o hb
                  rw [upd_ne (ne_of_none hb hD2)]
                  exact s2 _ _ hb
                · rw [upd_same, take_heads hd, List.map_append]
                  rfl
              · rintro H2 ⟨s2, e3⟩
                rw [hl, List.take_length] at e3
                refine ⟨D2, ds.map headS, rfl, SqL.of e3, (by rw [List.length_map]; omega), _, rfl, _, _, rfl, .inl (SqL.of (s2 _ _ (s1 _ _ ha))), rfl, ?_⟩
                have e4 : areSigns (.lst ds) = decide (V.int (((dd (ds.map headS)).length : Nat) : Int) = V.int ((xs.length : Nat) : Int)) := by
                  show (decide (2 ≤ ds.length ∧ ds.length ≤ 6) && ds.all isSign && _) = _
                  rw [decide_eq_true lim, e2, Bool.true_and, Bool.true_and, dec_int, hl]
                  by_cases z : (dd (ds.map headS)).length = ds.length
                  · rw [z]
                    simp
                  · have z1 : ((dd (ds.map headS)).length == ds.length) = false := by simpa using z
                    have z2 : ((((dd (ds.map headS)).length : Nat) : Int) == ((ds.length : Nat) : Int)) = false := by
                      simp only [beq_eq_false_iff_ne, ne_eq]
                      omega
                    rw [z1, z2]
                rw [e4] at k
                exact k _ (s1.trans s2)
      · rw [no (by omega)] at k
        exact ⟨_, rfl, iteT (k _ (Same.refl _))⟩
    | _ => exact iteT (k _ (Same.refl _))
end
end Dear

namespace Dear
open PySem PySem.Spec PyProof.Rows L2
/-! ### xs[::e], e one or minus one -/
def tRevE (K : PySem.W.Frag) (te ts : TE) : TE := fun σ H Q => te σ H fun x H1 => tPart ts σ H1 fun o H2 => ∃ (a : Addr) (xs : List V) (b : Bool), x = .ref a ∧ o = some (if b then -1 else 1) ∧ SqL K H2 a xs ∧ ∀ p, H2 p = none → Q (.ref p) (upd H2 p (.lst (if b then xs.reverse else xs)))
theorem pick_all (items : List Value) : slicePick items.toArray none none (some 1) = items.toArray := by
  have e : slicePick items.toArray none none (some 1) = slicePick items.toArray none none none := rfl
  rw [e, slicePick_cut]
  simp [HT.sIx]
theorem pe_revE {X : Cx} (K : PySem.W.Frag) {e st : Expr} {te ts : TE} {p3 pos : Pos} (he : PE X e te) (hs : PE X st ts) (hk : X.K = K := by rfl) : PE X (.Subscript e (.Slice none none (some st) p3) pos) (tRevE K te ts) := by
  subst hk
  refine ⟨fun pins s σ H Q I h => ?_⟩
  refine Subscript_ (thn (he.run pins s σ H _ I h) fun v s1 ⟨x, H1, I1, r1, q1⟩ => ?_)
  have hst : PO X (some st) (tPart ts) := po_some hs
  refine wpAny_Slice (thn (po_none.run pins s1 σ H1 (fun o H2 => o = none ∧ H2 = H1) I1 ⟨rfl, rfl⟩) fun vl s2 ⟨l, H2, I2, pl, el, e2⟩ => ?_)
  subst el e2
  refine thn (po_none.run pins s2 σ H2 (fun o H3 => o = none ∧ H3 = H2) I2 ⟨rfl, rfl⟩) fun vu s3 ⟨u, H3, I3, pu, eu, e3⟩ => ?_
  subst eu e3
  refine thn (hst.run pins s3 σ H3 _ I3 q1) fun vs s4 ⟨o, H4, I4, ps, a, xs, b, ex, eo, hx, q⟩ => ?_
  subst ex eo
  cases r1
  have I5 : Inv X pins σ H4 { s4 with heap := s4.heap.push { cls := .type "slice", data := .fields #[vl, vu, vs] } } := I4.kept (t' := s4.toks) fun b ob q => Heap.get?_push_of_some _ q
  obtain ⟨its, r, ht, hz⟩ := I5.list hx
  have hlen := r.length
  show wpAny (model X.prog X.w) X.A (subscriptTail e (.Slice none none (some st) p3) (.ref a) (.ref s4.heap.objs.size)) (EP X pins σ Q) X.xe { s4 with heap := s4.heap.push { cls := .type "slice", data := .fields #[vl, vu, vs] } }
  refine tail_any (ops := [.ref a, .ref s4.heap.objs.size]) ht.isList.typeIs (PySem.slot_list_getitem.lookup) ?_ (by with_unfolding_all rfl)
  refine wpAny_getItem_list_slice ht.isList (Heap.IsSliceOf.new _ vl vu vs) pl pu ps (by cases b <;> decide) ?_ (by rw [List.size_toArray]; omega)
  cases b with
  | true =>
    rw [show (if true = true then (-1 : Int) else 1) = -1 from rfl, PySem.W.krv_pick]
    refine ⟨.ref _, _, I5.laid (t' := s4.toks) (o := .lst xs.reverse) (fun b ob q => Heap.get?_push_of_some _ q) (Nat.le_refl _) ?_, rfl, q _ (I5.hok.fresh (Nat.le_refl _))⟩
    exact ⟨by rw [List.length_reverse]; exact hz, _, 0, r.reverse, Heap.get?_push_size _ rfl⟩
  | false =>
    rw [show (if false = true then (-1 : Int) else 1) = 1 from rfl, pick_all]
    refine ⟨.ref _, _, I5.laid (t' := s4.toks) (o := .lst xs) (fun b ob q => Heap.get?_push_of_some _ q) (Nat.le_refl _) ?_, rfl, q _ (I5.hok.fresh (Nat.le_refl _))⟩
    exact ⟨hz, _, 0, r, Heap.get?_push_size _ rfl⟩
end Dear

namespace Dear
open PySem PySem.Spec PyProof.Rows L2
theorem cut_take (xs : List V) (i : Nat) : cutV xs none (some (i : Int)) = xs.take i := by
  unfold cutV
  have e0 : HT.sIx xs.length 0 none = 0 := rfl
  have e1 : HT.sIx xs.length xs.length (some (i : Int)) = min i xs.length := HT.sIx_nat _ _ _
  rw [e0, e1, List.drop_zero, Nat.sub_zero]
  rcases Nat.le_total i xs.length with h | h
  · rw [Nat.min_eq_left h]
  · rw [Nat.min_eq_right h, List.take_length, List.take_of_length_le h]
section
variable {P : Program} {w : World} {K : PySem.W.Frag} {mg : Str → Option Value} {base : Heap}
theorem o_are_unlike_texts (T : Txt K mg) : OkF P w K mg base CX0 1 "are_unlike_texts" ["thing", "size", "letters"] spUnlike := by
  refine T.f_are_unlike_texts.ok c_are_unlike_texts (fun vs H Q E h => ?_) (fun f cdv A outer s H vs Q E hr h => ?_)
  · obtain ⟨v, d, n, b, L, rfl, _⟩ := h
    rfl
  · obtain ⟨v, d, n, b, L, rfl, hI, ok, hb, k⟩ := h
    refine ⟨_, (pss_cons (ps_if (pt_not (pt_val (pe_callB (call_isi_k K) (by rfl) T.b_isinstance (by decide +kernel) (pa_cons (pv 0) (pa_cons (pe_bltn (v := .ty "list") (by rfl) T.b_list (by decide +kernel) rfl) pa_nil)))))
(pss_one (ps_ret pe_bl))
pss_nil)
(pss_cons (ps_for PassesOwn.never rfl (pi_enum (by rfl) T.b_enumerate (pa_cons (pv 0) pa_nil)) (pg_tup_k K (n := 2) rfl (pgs_cons (pg_name (i := 3) c_are_unlike_texts.nd rfl (Or.inl rfl)) (pgs_cons (pg_name (i := 4) c_are_unlike_texts.nd rfl (Or.inl rfl)) pgs_nil)))
(pss_cons (ps_if (PW.pt (pw_or (pt_not (pt_val (pe_callB (call_isi_k K) (by rfl) T.b_isinstance (by decide +kernel) (pa_cons (pv 4) (pa_cons (pe_bltn (v := .ty "str") (by rfl) T.b_str (by decide +kernel) rfl) pa_nil))))) (pw_or (pt_cmpR op_ne (pe_callB call_len_str (by rfl) T.b_len PySem.boot_len (pa_cons (pv 4) pa_nil)) (pv 1) (nomark _)) (pw_or1 (pt_cmpR (op_in_seq_k K) (pv 4) (pe_slice (sl_list_k K) (pv 0) po_none (po_some (pv 3))) rfl)))))
(pss_one (ps_ret pe_bl))
pss_nil)
(pss_one (ps_if (pt_not (pt_val (pe_callB (cr_all_k K rfl) (by rfl) T.b_all (by decide +kernel) (pa_cons (pe_lc (own := [("sign", 5)]) (g := gName 5) (tt := tYes) (by rfl) c_are_unlike_texts.nd (pi_str (pv 4)) (blkOk_by (own := [("sign", 5)]) (N := n_are_unlike_texts) (sc := defScope s_are_unlike_texts) (by decide +kernel)) (fun _ _ _ _ _ => (pg_name (i := 5) c_are_unlike_texts.nd rfl (Or.inl rfl))) (fun _ _ _ _ _ => pts_nil) (fun _ _ _ _ _ => (pe_cmpR (op_in_seq_k K) (pv 5) (pv 2) rfl))) pa_nil))))
(pss_one (ps_ret pe_bl))
pss_nil))))
(pss_one (ps_ret pe_bl)))), ?_⟩
    refine ⟨_, rfl, _, _, _, _, _, rfl, .ty _, hI.ty, kit_ty (kd_list d), _, rfl, ?_⟩
    cases hI with
    | lst ha hall =>
      rename_i a xs ds
      have hl := hall.length
      have k : ∀ H', Same H H' → Q (.bl (unl n L [] ds)) H' := k
      refine iteF ⟨_, rfl, a, xs, rfl, SqL.of ha, for_it walk_enum (fun i σ H' => Same H H' ∧ ∃ pre : List Str, ds.take i = pre.map D.str ∧ unl n L [] ds = unl n L pre (ds.drop i) ∧ ∃ v3 v4 v5, σ = [some (.ref a), some (.int n), some (.ref b), v3, v4, v5])
        ⟨Same.refl _, [], rfl, rfl, _, _, _, rfl⟩ (fun i σ H' _ h => SqL.of (h.1 _ _ ha)) ?_ ?_⟩
      · rintro i x σ H' H'' hi ⟨s1, pre, e1, e2, v3, v4, v5, rfl⟩ ⟨T1, x1, x2, rfl, hT1, rfl, e3, e4⟩
        cases e3
        obtain ⟨d1, hd1, h1⟩ := hall.get e4
        refine ⟨T1, _, rfl, SqT.of upd_same, rfl, _, _, rfl, _, _, rfl, rfl, ?_⟩
        have s2 : Same H (upd H' T1 (.tup [.int (i : Nat), x2])) := s1.trans (Same.upd hT1)
        generalize upd H' T1 (.tup [.int (i : Nat), x2]) = H2 at s2
        rw [drop_get hd1] at e2
        refine ⟨_, rfl, _, _, _, _, _, rfl, .ty _, (h1.same s2).ty, kit_ty (kd_str d1), _, rfl, ?_⟩
        cases h1 with
        | str z =>
          have okz : z.length ≤ 3000 ∧ Asc z := OkAll.mem ok (List.mem_of_getElem? hd1)
          have e2 : unl n L [] ds = (decide ((z.length : Int) = n) && !decide (z ∈ pre) && (z.cps.toList.all fun c => decide (sgn c ∈ L)) && unl n L (pre ++ [z]) (ds.drop (i + 1))) := e2
          refine iteF ⟨_, rfl, _, rfl, Nat.le_trans okz.1 (by decide), _, rfl, rfl, _, rfl, ?_⟩
          rw [dec_int]
          by_cases c1 : (z.length : Int) = n
          · rw [decide_eq_true c1, Bool.true_and] at e2
            have c1' : (!((z.length : Int) == n)) = false := by simp [c1]
            rw [c1']
            refine iteF ?_
            have ex : xs.take i = pre.map V.str := by
              have := hall.take i
              rw [e1] at this
              exact this.strs
            refine ⟨_, rfl, _, rfl, _, rfl, _, rfl, _, _, rfl, SqL.of (s2 _ _ ha), fun p3 hp3 => ?_⟩
            rw [cut_take, ex]
            have s3 := s2.trans (Same.upd (o := .lst (pre.map V.str)) hp3)
            refine ⟨p3, _, rfl, .inl (SqL.of upd_same), rfl, flat_str pre, _, rfl, ?_⟩
            rw [inV_strs]
            generalize upd H2 p3 (.lst (pre.map V.str)) = H3 at s3
            by_cases c2 : z ∈ pre
            · rw [decide_eq_true c2] at e2 ⊢
              refine iteT ?_
              rw [e2] at k
              exact k _ s3
            · rw [decide_eq_false c2, Bool.not_false, Bool.true_and] at e2
              rw [decide_eq_false c2]
              refine iteF ?_
              refine ⟨_, rfl, z, rfl, fun Dd hD => lc_it walk_str (fun j H' => Same H3 H' ∧ H' Dd = some (.lst (((z.cps.toList.take j).map fun c => decide (sgn c ∈ L)).map V.bl))) ⟨Same.upd hD, upd_same⟩ (fun _ _ _ _ => trivial) ?_ ?_⟩
              · rintro j y H4 H5 hj ⟨s4, e5⟩ ⟨rfl, c, hc, rfl⟩
                have hc' : z.cps.toList[j]? = some c := by rw [Array.getElem?_toList]; exact hc
                refine ⟨rfl, _, rfl, _, rfl, b, _, rfl, .inl (SqL.of (s4 _ _ (s3 _ _ hb))), rfl, flat_str L, _, e5, ?_, ?_, ?_⟩
                · rw [List.length_map, List.length_map]
                  refine Nat.lt_of_le_of_lt (List.length_take_le _ _) (Nat.lt_of_lt_of_le hj ?_)
                  exact Nat.le_trans (show z.cps.size ≤ 3000 from okz.1) (by decide)
                · intro a1 o ho
                  rw [upd_ne (ne_of_none ho hD)]
                  exact s4 _ _ ho
                · rw [upd_same, take_more hc', List.map_append, List.map_append]
                  have : inV (.str ⟨#[c]⟩) (L.map V.str) = decide (sgn c ∈ L) := inV_strs _ _
                  rw [if_neg Bool.false_ne_true, this]
                  rfl
              · rintro H4 ⟨s4, e5⟩
                have e6 : z.cps.toList.take z.cps.size = z.cps.toList := by rw [← Array.length_toList, List.take_length]
                rw [e6] at e5
                refine ⟨Dd, _, rfl, SqL.of e5, _, rfl, ?_⟩
                have e7 : ((z.cps.toList.map fun c => decide (sgn c ∈ L)).all id) = z.cps.toList.all fun c => decide (sgn c ∈ L) := by
                  rw [List.all_map]
                  rfl
                rw [e7]
                cases e8 : z.cps.toList.all fun c => decide (sgn c ∈ L) with
                | false =>
                  rw [e8, Bool.false_and] at e2
                  rw [e2] at k
                  exact iteT (k _ (s3.trans s4))
                | true =>
                  rw [e8, Bool.true_and] at e2
                  refine iteF ?_
                  refine ⟨s3.trans s4, pre ++ [z], ?_, e2, _, _, _, rfl⟩
                  rw [take_more hd1, e1, List.map_append]
                  rfl
          · rw [decide_eq_false c1, Bool.false_and, Bool.false_and, Bool.false_and] at e2
            have c1' : (!((z.length : Int) == n)) = true := by simp [c1]
            rw [c1']
            refine iteT ?_
            rw [e2] at k
            exact k _ s2
        | _ =>
          have e2 : unl n L [] ds = false := e2
          rw [e2] at k
          exact iteT (k _ s2)
      · rintro σ H' ⟨s1, pre, e1, e2, v3, v4, v5, rfl⟩
        rw [hl, List.drop_length] at e2
        have e2 : unl n L [] ds = true := e2
        rw [e2] at k
        exact k _ s1
    | _ => exact iteT (k _ (Same.refl _))
theorem look_shape {d : D} (h : lookOk d = true) : ∃ (ds : List D) (f p : D) (i : Int), d = .tup [.lst ds, f, p, .int i] ∧ areSigns (.lst ds) = true ∧ unlike 1 (ds.map headS) f = true ∧ unlike 2 (ds.map headS) p = true ∧ 1 ≤ i ∧ i ≤ 8 := by
  match d, h with
  | .tup [s, f, p, l], h =>
    have h : (areSigns s && unlike 1 (heads s) f && unlike 2 (heads s) p && isLong l) = true := h
    simp only [Bool.and_eq_true] at h
    obtain ⟨⟨⟨h1, h2⟩, h3⟩, h4⟩ := h
    match s, l, h1, h2, h3, h4 with
    | .lst ds, .int i, h1, h2, h3, h4 =>
      have h4 : decide (1 ≤ i ∧ i ≤ 8) = true := h4
      have h5 := of_decide_eq_true h4
      exact ⟨ds, f, p, i, rfl, h1, h2, h3, h5.1, h5.2⟩
theorem signs_all {ds : List D} (h : areSigns (.lst ds) = true) : 2 ≤ ds.length ∧ ds.length ≤ 6 ∧ ds.all isSign = true ∧ (ds.map headS).Nodup := by
  have h : (decide (2 ≤ ds.length ∧ ds.length ≤ 6) && ds.all isSign && (dd (ds.map headS)).length == ds.length) = true := h
  simp only [Bool.and_eq_true] at h
  obtain ⟨⟨h1, h2⟩, h3⟩ := h
  have h1 := of_decide_eq_true h1
  exact ⟨h1.1, h1.2, h2, dd_full (by rw [List.length_map]; simpa using h3)⟩
end
end Dear

namespace Dear
open PySem PySem.Spec PyProof.Rows L2
/-! ### look_at_tongue of any thing -/
/-- the part that is wrong first -/
def tgBad : D → Option V
  | .tup [s, f, p, l] => if areSigns s = false then some (.str "signs") else if unlike 1 (heads s) f = false then some (.str "firsts") else if unlike 2 (heads s) p = false then some (.str "pairs") else if isLong l = false then some (.str "longest") else none
  | _ => some .non
theorem tgBad_ok {d : D} (h : lookOk d = true) : tgBad d = none := by
  match d, h with
  | .tup [s, f, p, l], h =>
    have h : (areSigns s && unlike 1 (heads s) f && unlike 2 (heads s) p && isLong l) = true := h
    simp only [Bool.and_eq_true] at h
    obtain ⟨⟨⟨h1, h2⟩, h3⟩, h4⟩ := h
    show (if areSigns s = false then some (V.str "signs") else if unlike 1 (heads s) f = false then some (.str "firsts") else if unlike 2 (heads s) p = false then some (.str "pairs") else if isLong l = false then some (.str "longest") else none) = none
    rw [h1, h2, h3, h4]
    rfl
def spLookX (C : Addr) : Sp := fun vs H Q E => ∃ (v : V) (d : D), vs = [v] ∧ Dt H v d ∧ Ok d ∧ (tgBad d = none → ∀ H', Same H H' → Q .non H') ∧ ∀ u, tgBad d = some u → ∀ (dd : Addr) (H' : Hp), Same H H' → H dd = none → H' dd = some (.xd [("part", u)]) → E (.ref C) (some dd) H'
section
variable {P : Program} {w : World} {K : PySem.W.Frag} {mg : Str → Option Value} {base : Heap}
theorem o_look_at_tongue (T : Txt K mg) : OkF P w K mg base (L2.CX P w) 6 "look_at_tongue" ["thing"] (spLookX T.A.NoTongue) := by
  have o_are_signs := o_are_signs (P := P) (w := w) (base := base) T
  have o_are_unlike_texts := o_are_unlike_texts (P := P) (w := w) (base := base) T
  have o_is_whole := o_is_whole (P := P) (w := w) (base := base) T
  have oi_NoTongue := oi_NoTongue (P := P) (w := w) (base := base) T
  refine T.f_look_at_tongue.okX c_look_at_tongue (fun vs H Q E h => ?_) (fun f cdv A outer s H vs Q E hr h => ?_)
  · obtain ⟨v, d, rfl, _⟩ := h
    rfl
  · obtain ⟨v, d, rfl, hI, ok, k, kE⟩ := h
    refine ⟨_, (pss_cons (ps_if (PW.pt (pw_or (pt_not (pt_val (pe_callB (call_isi_k K) (by rfl) T.b_isinstance (by decide +kernel) (pa_cons (pv 0) (pa_cons (pe_bltn (v := .ty "tuple") (by rfl) T.b_tuple (by decide +kernel) rfl) pa_nil))))) (pw_or1 (pt_cmpR op_ne (pe_callB (call_len_seq_k K) (by rfl) T.b_len PySem.boot_len (pa_cons (pv 0) pa_nil)) pe_int (nomark _)))))
(pss_one (ps_raise rfl (takes_of rfl rfl rfl rfl) (pmk_i oi_NoTongue hr (pa_cons pe_non pa_nil))))
pss_nil)
(pss_cons (ps_asg (pv 0) (pg_tup_k K (n := 4) rfl (pgs_cons (pg_name (i := 1) c_look_at_tongue.nd rfl (Or.inl rfl)) (pgs_cons (pg_name (i := 2) c_look_at_tongue.nd rfl (Or.inl rfl)) (pgs_cons (pg_name (i := 3) c_look_at_tongue.nd rfl (Or.inl rfl)) (pgs_cons (pg_name (i := 4) c_look_at_tongue.nd rfl (Or.inl rfl)) pgs_nil))))))
(pss_cons (ps_if (pt_not (pt_val (pe_c o_are_signs hr (pa_cons (pv 1) pa_nil))))
(pss_one (ps_raise rfl (takes_of rfl rfl rfl rfl) (pmk_i oi_NoTongue hr (pa_cons pe_str pa_nil))))
pss_nil)
(pss_cons (ps_setLc (i := 5) (own := [("one", 6)]) (g := gName 6) (tt := tYes) (by rfl) c_look_at_tongue.nd rfl rfl (sw_true rfl rfl rfl (by decide +kernel)) (pi_list_k K (pv 1)) (blkOk_by (own := [("one", 6)]) (N := n_look_at_tongue) (sc := defScope s_look_at_tongue) (by decide +kernel)) (fun _ _ _ _ _ => (pg_name (i := 6) c_look_at_tongue.nd rfl (Or.inl rfl))) (fun _ _ _ _ _ => pts_nil) (fun _ _ _ _ _ => (pe_ix (ix_tup_k K) (pv 6) pe_int (fun _ _ => rfl))))
(pss_cons (ps_if (pt_not (pt_val (pe_c o_are_unlike_texts hr (pa_cons (pv 2) (pa_cons pe_int (pa_cons (pv 5) pa_nil))))))
(pss_one (ps_raise rfl (takes_of rfl rfl rfl rfl) (pmk_i oi_NoTongue hr (pa_cons pe_str pa_nil))))
pss_nil)
(pss_cons (ps_if (pt_not (pt_val (pe_c o_are_unlike_texts hr (pa_cons (pv 3) (pa_cons pe_int (pa_cons (pv 5) pa_nil))))))
(pss_one (ps_raise rfl (takes_of rfl rfl rfl rfl) (pmk_i oi_NoTongue hr (pa_cons pe_str pa_nil))))
pss_nil)
(pss_one (ps_if (PW.pt (pw_or (pt_not (pt_val (pe_c o_is_whole hr (pa_cons (pv 4) pa_nil)))) (pw_or1 (pt_not (pt_chain op_le op_le pe_int (pv 4) (pe_gi T.g_LONGEST_tongues))))))
(pss_one (ps_raise rfl (takes_of rfl rfl rfl rfl) (pmk_i oi_NoTongue hr (pa_cons pe_str pa_nil))))
pss_nil)))))))), ?_⟩
    have fvS : ∀ z : Str, z.length ≤ 900 → FmtV (.str z) := fun z hz => .inr (.inl ⟨z, rfl, hz⟩)
    have bad : ∀ {u : V} {H1 : Hp}, tgBad d = some u → Same H H1 → ∀ dd : Addr, H1 dd = none → E (.ref T.A.NoTongue) (some dd) (upd H1 dd (.xd [("part", u)])) := fun {u H1} e s1 dd hd => kE u e dd _ (s1.trans (Same.upd hd)) (same_none s1 hd) upd_same
    refine ⟨_, rfl, _, _, _, _, _, rfl, .ty _, hI.ty, kit_ty (kd_tuple _), _, rfl, ?_⟩
    cases hI with
    | tup ha hall =>
      rename_i a xs ds
      have hl := hall.length
      refine iteF ⟨_, rfl, _, _, rfl, .inr (SqT.of ha), rfl, _, rfl, ?_⟩
      by_cases h4 : xs.length = 4
      · have e2 : decide (V.int ((xs.length : Nat) : Int) = V.int 4) = true := by rw [h4]; decide
        rw [e2]
        refine iteF ?_
        match xs, ds, hall, h4, ok, k, kE, @bad with
        | [x1, x2, x3, x4], _, .cons (d := d1) h1 (.cons (d := d2) h2 (.cons (d := d3) h3 (.cons (d := d4) h4 .nil))), _, ok, k, kE, bad =>
          have eB : tgBad (.tup [d1, d2, d3, d4]) = if areSigns d1 = false then some (.str "signs") else if unlike 1 (heads d1) d2 = false then some (.str "firsts") else if unlike 2 (heads d1) d3 = false then some (.str "pairs") else if isLong d4 = false then some (.str "longest") else none := rfl
          rw [eB] at k bad
          refine ⟨_, rfl, _, _, rfl, SqT.of ha, rfl, _, _, rfl, _, _, rfl, _, _, rfl, _, _, rfl, rfl, ?_⟩
          refine ⟨_, rfl, _, _, rfl, h1, ok.1, fun H1 s1 => ⟨_, rfl, ?_⟩⟩
          cases g1 : areSigns d1 with
          | false => exact iteT (mkx T.X_NoTongue (fvS _ (by decide +kernel)) (bad (by rw [g1]; rfl) s1))
          | true =>
            rw [g1, if_neg (by decide)] at k bad
            refine iteF ?_
            obtain ⟨es, rfl⟩ : ∃ es, d1 = .lst es := by
              cases d1 with
              | lst es => exact ⟨es, rfl⟩
              | _ => cases g1
            obtain ⟨l2, l6, sg, _⟩ := signs_all g1
            rw [show heads (.lst es) = es.map headS from rfl] at k bad
            cases h1 with
            | @lst b ys _ hb hall1 =>
              have hl1 := hall1.length
              refine ⟨_, rfl, b, rfl, ⟨_, SqL.of (s1 _ _ hb)⟩, fun D2 hD2 => lc_list (K := K) (a := b) (xs := ys) (fun i H' => Same H1 H' ∧ H' D2 = some (.lst (((es.take i).map headS).map V.str))) ⟨Same.upd hD2, upd_same⟩ (fun i H' _ e => SqL.of (e.1 _ _ (s1 _ _ hb))) ?_ ?_⟩
              · rintro i x H' hx ⟨s2, e3⟩
                obtain ⟨q, z, y1, y2, p, l, rfl, hq, hd⟩ := heads_get hall1 sg hx
                refine ⟨rfl, _, rfl, _, _, _, _, rfl, rfl, SqT.of (s2 _ _ (s1 _ _ hq)), rfl, _, e3, ?_, ?_, ?_⟩
                · rw [List.length_map, List.length_map]
                  refine small1000 (Nat.le_trans (List.length_take_le _ _) ?_)
                  have := (List.getElem?_eq_some_iff.mp hd).1
                  omega
                · intro b o hb
                  rw [upd_ne (ne_of_none hb hD2)]
                  exact s2 _ _ hb
                · rw [upd_same, take_heads hd, List.map_append]
                  rfl
              · rintro H2 ⟨s2, e3⟩
                rw [hl1, List.take_length] at e3
                have s12 := s1.trans s2
                refine ⟨_, rfl, _, rfl, _, _, 1, D2, _, rfl, h2.same s12, ok.2.1, e3, fun H3 s3 => ⟨_, rfl, ?_⟩⟩
                have s13 := s12.trans s3
                cases g2 : unlike 1 (es.map headS) d2 with
                | false => exact iteT (mkx T.X_NoTongue (fvS _ (by decide +kernel)) (bad (by rw [g2]; rfl) s13))
                | true =>
                  rw [g2, if_neg (by decide)] at k bad
                  refine iteF ?_
                  refine ⟨_, rfl, _, rfl, _, _, 2, D2, _, rfl, h3.same s13, ok.2.2.1, s3 _ _ e3, fun H4 s4 => ⟨_, rfl, ?_⟩⟩
                  have s14 := s13.trans s4
                  cases g3 : unlike 2 (es.map headS) d3 with
                  | false => exact iteT (mkx T.X_NoTongue (fvS _ (by decide +kernel)) (bad (by rw [g3]; rfl) s14))
                  | true =>
                    rw [g3, if_neg (by decide)] at k bad
                    refine iteF ?_
                    have h44 := h4.same s14
                    refine ⟨_, rfl, x4, d4, rfl, h44, _, rfl, ?_⟩
                    have no : isLong d4 = false → ∀ dd : Addr, H4 dd = none → E (.ref T.A.NoTongue) (some dd) (upd H4 dd (.xd [("part", .str "longest")])) := fun e => bad (by rw [e]; rfl) s14
                    cases h44 with
                    | int i =>
                      have eL : isLong (.int i) = decide (1 ≤ i ∧ i ≤ 8) := rfl
                      rw [eL] at k no
                      refine iteF ⟨_, rfl, _, _, rfl, rfl, _, rfl, itd (fun c1 => ?_) fun c1 => ?_⟩
                      · refine ⟨_, _, rfl, rfl, _, rfl, itnd (fun c2 => ?_) fun c2 => ?_⟩
                        · exact mkx T.X_NoTongue (fvS _ (by decide +kernel)) (no (decide_eq_false (by omega)))
                        · rw [decide_eq_true (⟨c1, c2⟩ : 1 ≤ i ∧ i ≤ 8), if_neg (by decide)] at k
                          exact k rfl _ s14
                      · exact ⟨_, rfl, iteT (mkx T.X_NoTongue (fvS _ (by decide +kernel)) (no (decide_eq_false (by omega))))⟩
                    | _ => exact iteT (mkx T.X_NoTongue (fvS _ (by decide +kernel)) (no rfl))
      · have e2 : decide (V.int ((xs.length : Nat) : Int) = V.int 4) = false := by
          rw [dec_int]
          simp only [beq_eq_false_iff_ne, ne_eq]
          omega
        rw [e2]
        refine iteT ?_
        have e3 : tgBad (.tup ds) = some .non := by
          match ds, hl with
          | [], _ => rfl
          | [_], _ => rfl
          | [_, _], _ => rfl
          | [_, _, _], _ => rfl
          | [_, _, _, _], z => exact absurd z h4
          | _ :: _ :: _ :: _ :: _ :: _, _ => rfl
        exact mkx T.X_NoTongue (.inl rfl) (bad e3 (Same.refl _))
    | _ => exact iteT (mkx T.X_NoTongue (.inl rfl) (bad rfl (Same.refl _)))
end
end Dear

namespace Dear
open PySem PySem.Spec PyProof.Rows L2
/-- the tongue as it stands: its tuple and its three lists, new ones and unlike -/
structure TgAt (H0 H : Hp) (v : V) (ds : List D) (cs fs : List Nat) (zs : List Str) (i : Int) : Prop where
  ex : ∃ (p a b c : Addr) (xs : List V), v = .ref p ∧ H p = some (.tup [.ref a, .ref b, .ref c, .int i]) ∧ H a = some (.lst xs) ∧ DtAll H xs ds ∧ H b = some (.lst ((fs.map sgn).map V.str)) ∧ H c = some (.lst (zs.map V.str)) ∧
    H0 p = none ∧ H0 a = none ∧ H0 b = none ∧ H0 c = none ∧ a ≠ b ∧ a ≠ c ∧ b ≠ c
theorem dt_strs {H : Hp} : ∀ zs : List Str, DtAll H (zs.map V.str) (zs.map D.str)
  | [] => .nil
  | z :: zs => .cons (.str z) (dt_strs zs)
theorem TgAt.dt {H0 H : Hp} {v : V} {d : D} {ds : List D} {cs fs : List Nat} {zs : List Str} {i : Int} (h : TgAt H0 H v ds cs fs zs i) (t : TgD d ds cs fs zs i) : Dt H v d := by
  obtain ⟨p, a, b, c, xs, rfl, h1, h2, h3, h4, h5, _⟩ := h.ex
  rw [t.eq]
  exact .tup h1 (.cons (.lst h2 h3) (.cons (.lst h4 (dt_strs _)) (.cons (.lst h5 (dt_strs _)) (.cons (.int i) .nil))))
end Dear

namespace Dear
open PySem PySem.Spec PyProof.Rows L2
def cds (sh st : Int) (n : Nat) : List Nat := (List.range n).map (codeAt sh st)
theorem cds_len (sh st : Int) (n : Nat) : (cds sh st n).length = n := by
  unfold cds
  rw [List.length_map, List.length_range]
theorem cds_more (sh st : Int) (n : Nat) : cds sh st (n + 1) = cds sh st n ++ [codeAt sh st n] := by
  unfold cds
  rw [List.range_succ, List.map_append]
  rfl
theorem cds_get {sh st : Int} {n i : Nat} {x : V} (h : (((cds sh st n).map sgn).map V.str)[i]? = some x) : i < n ∧ x = .str (sgn (codeAt sh st i)) := by
  have lt := (List.getElem?_eq_some_iff.mp h).1
  rw [List.length_map, List.length_map, cds_len] at lt
  refine ⟨lt, ?_⟩
  unfold cds at h
  rw [List.getElem?_map, List.getElem?_map, List.getElem?_map, List.getElem?_range lt] at h
  exact (Option.some.inj h).symm
theorem cds_at {sh st : Int} {n : Nat} {r : Int} (r0 : 0 ≤ r) (r1 : r < n) : ∃ c ∈ cds sh st n, atI (((cds sh st n).map sgn).map V.str) r = some (.str (sgn c)) := by
  obtain ⟨k, rfl⟩ := Int.eq_ofNat_of_zero_le r0
  have hk : k < n := by omega
  refine ⟨codeAt sh st k, List.mem_map.mpr ⟨k, List.mem_range.mpr hk, rfl⟩, atI_nat ?_⟩
  unfold cds
  rw [List.getElem?_map, List.getElem?_map, List.getElem?_map, List.getElem?_range hk]
  rfl
theorem pair_new {cs : List Nat} {zs : List Str} {a b : Nat} (h : PairsOf cs cs zs) (ha : a ∈ cs) (hb : b ∈ cs) (n : ¬ (sgn a ++ sgn b) ∈ zs) : PairsOf cs cs (zs ++ [sgn a ++ sgn b]) := by
  obtain ⟨h1, h2⟩ := h
  constructor
  · rw [List.nodup_append]
    refine ⟨h1, List.pairwise_singleton _ _, fun x hx y hy => ?_⟩
    have : y = sgn a ++ sgn b := by simpa using hy
    rw [this]
    exact fun e => n (by rw [← e]; exact hx)
  · intro z hz
    rcases List.mem_append.mp hz with hz | hz
    · exact h2 z hz
    · have : z = sgn a ++ sgn b := by simpa using hz
      exact ⟨a, ha, b, hb, this⟩
end Dear

namespace Dear
open PySem PySem.Spec PyProof.Rows L2
/-! ### fractions made of two whole numbers -/
theorem gcd_dvd_t (t b : Int) : (Int.gcd b t : Int) ∣ t := Int.gcd_dvd_right ..
theorem gcd_dvd_b (t b : Int) : (Int.gcd b t : Int) ∣ b := Int.gcd_dvd_left ..
theorem low_mul (t b : Int) (h : 0 < b) : lowT t b * (Int.gcd b t : Int) = t ∧ lowB t b * (Int.gcd b t : Int) = b := ⟨Int.ediv_mul_cancel (gcd_dvd_t t b), Int.ediv_mul_cancel (gcd_dvd_b t b)⟩
theorem low_fr (t b : Int) (h : 0 < b) : 0 < lowB t b ∧ Int.gcd (lowB t b) (lowT t b) = 1 := by
  have g := gcd_pos t h
  obtain ⟨e1, e2⟩ := low_mul t b h
  constructor
  · rcases Int.lt_or_le 0 (lowB t b) with z | z
    · exact z
    · have := Int.mul_nonpos_of_nonpos_of_nonneg z (Int.le_of_lt g)
      omega
  · have g' : 0 < Nat.gcd b.natAbs t.natAbs := by
      have : ((Int.gcd b t : Nat) : Int) = ((Nat.gcd b.natAbs t.natAbs : Nat) : Int) := rfl
      omega
    have n1 : (lowT t b).natAbs = t.natAbs / Nat.gcd b.natAbs t.natAbs := by
      have := congrArg Int.natAbs e1
      rw [Int.natAbs_mul] at this
      have e : ((Int.gcd b t : Nat) : Int).natAbs = Nat.gcd b.natAbs t.natAbs := Int.natAbs_natCast _
      rw [e] at this
      exact (Nat.div_eq_of_eq_mul_left g' this.symm).symm
    have n2 : (lowB t b).natAbs = b.natAbs / Nat.gcd b.natAbs t.natAbs := by
      have := congrArg Int.natAbs e2
      rw [Int.natAbs_mul] at this
      have e : ((Int.gcd b t : Nat) : Int).natAbs = Nat.gcd b.natAbs t.natAbs := Int.natAbs_natCast _
      rw [e] at this
      exact (Nat.div_eq_of_eq_mul_left g' this.symm).symm
    show Nat.gcd (lowB t b).natAbs (lowT t b).natAbs = 1
    rw [n1, n2, Nat.gcd_div (Nat.gcd_dvd_left _ _) (Nat.gcd_dvd_right _ _)]
    exact Nat.div_self g'
theorem low_small (t b : Int) (h : 0 < b) : (lowT t b).natAbs ≤ t.natAbs ∧ (lowB t b).natAbs ≤ b.natAbs := by
  have g := gcd_pos t h
  obtain ⟨e1, e2⟩ := low_mul t b h
  have key : ∀ x y : Int, x * (Int.gcd b t : Int) = y → x.natAbs ≤ y.natAbs := fun x y e => by
    rw [← e, Int.natAbs_mul]
    exact Nat.le_mul_of_pos_right _ (by omega)
  exact ⟨key _ _ e1, key _ _ e2⟩
/-- worth the two crosswise -/
theorem low_cross (t b : Int) (h : 0 < b) : lowT t b * b = t * lowB t b := by
  obtain ⟨e1, e2⟩ := low_mul t b h
  have a : lowT t b * b = lowT t b * (lowB t b * (Int.gcd b t : Int)) := by rw [e2]
  have c : t * lowB t b = lowT t b * (Int.gcd b t : Int) * lowB t b := by rw [e1]
  rw [a, c, Int.mul_assoc, Int.mul_comm (Int.gcd b t : Int)]
def frT (t b : Int) : Int := if b < 0 then lowT (0 - t) (0 - b) else lowT t b
def frB (t b : Int) : Int := if b < 0 then lowB (0 - t) (0 - b) else lowB t b
theorem fr_cross {t b : Int} (h : b ≠ 0) : frT t b * b = t * frB t b := by
  unfold frT frB
  by_cases c : b < 0
  · rw [if_pos c, if_pos c]
    have := low_cross (0 - t) (0 - b) (by omega)
    generalize lowT (0 - t) (0 - b) = x at this ⊢
    generalize lowB (0 - t) (0 - b) = y at this ⊢
    rw [Int.mul_sub, Int.sub_mul, Int.mul_zero, Int.zero_mul, Int.zero_sub, Int.zero_sub] at this
    exact Int.neg_inj.mp this
  · rw [if_neg c, if_neg c]
    exact low_cross t b (by omega)
theorem fr_fr {t b : Int} (h : b ≠ 0) : isFr (.tup [.int (frT t b), .int (frB t b)]) = true := by
  show (decide (0 < frB t b) && (Int.gcd (frB t b) (frT t b) == 1)) = true
  unfold frT frB
  by_cases c : b < 0
  · obtain ⟨h1, h2⟩ := low_fr (0 - t) (0 - b) (by omega)
    rw [if_pos c, if_pos c, decide_eq_true h1, h2]
    rfl
  · obtain ⟨h1, h2⟩ := low_fr t b (by omega)
    rw [if_neg c, if_neg c, decide_eq_true h1, h2]
    rfl
theorem fr_small {t b : Int} (h : b ≠ 0) : (frT t b).natAbs ≤ t.natAbs ∧ (frB t b).natAbs ≤ b.natAbs := by
  unfold frT frB
  by_cases c : b < 0
  · obtain ⟨h1, h2⟩ := low_small (0 - t) (0 - b) (by omega)
    rw [if_pos c, if_pos c]
    omega
  · rw [if_neg c, if_neg c]
    exact low_small t b (by omega)
/-- two whole numbers, the second not 0 -/
def twoOk : D → D → Bool
  | .int _, .int b => !decide (b = 0)
  | _, _ => false
/-- fraction(top, bottom): a new tuple, or a refusal of the class at C -/
def spFraction (C : Addr) : Sp := fun vs H Q E => ∃ (v1 v2 : V) (d1 d2 : D), vs = [v1, v2] ∧ Dt H v1 d1 ∧ Dt H v2 d2 ∧ Ok d2 ∧
  (∀ t b : Int, d1 = .int t → d2 = .int b → b ≠ 0 → ∀ (p : Addr) (H' : Hp), H p = none → Same H H' → H' p = some (.tup [.int (frT t b), .int (frB t b)]) → Q (.ref p) H') ∧
  (twoOk d1 d2 = false → E (.ref C) none H)
section
variable {P : Program} {w : World} {K : PySem.W.Frag} {mg : Str → Option Value} {base : Heap}
theorem o_lowest (T : Txt K mg) : OkF P w K mg base CX0 2 "lowest" ["top", "bottom"] spLowest := by
  have o_divisor := o_divisor (P := P) (w := w) (base := base) T
  refine T.f_lowest.ok c_lowest (fun vs H Q E h => ?_) (fun f cdv A outer s H vs Q E hr h => ?_)
  · obtain ⟨v, n, rfl, _⟩ := h
    rfl
  · obtain ⟨t, b, rfl, hb, hl, k⟩ := h
    refine ⟨_, (pss_cons (ps_set (i := 2) c_lowest.nd rfl (Or.inl rfl) (pe_c o_divisor hr (pa_cons (pv 1) (pa_cons (pe_callB call_abs (by rfl) T.b_abs (by decide +kernel) (pa_cons (pv 0) pa_nil)) pa_nil))))
(pss_one (ps_ret (pe_tup (pa_cons (pe_op op_fdivW (pv 0) (pv 2)) (pa_cons (pe_op op_fdivW (pv 1) (pv 2)) pa_nil)))))), ?_⟩
    refine ⟨_, rfl, _, rfl, _, rfl, _, _, rfl, by omega, ?_, ?_⟩
    · split <;> omega
    · rw [abs_if, gcd_abs]
      refine ⟨_, rfl, _, rfl, _, _, rfl, rfl, ⟨gcd_pos t hb, gcd_log t hb hl⟩, _, rfl, _, rfl, _, _, rfl, rfl, ⟨gcd_pos t hb, gcd_log t hb hl⟩, (by show 2 ≤ sizeLine; decide), fun p hp => ?_⟩
      exact k p _ hp (Same.upd hp) upd_same
end
end Dear

namespace Dear
open PySem PySem.Spec PyProof.Rows L2
/-! ### fractions reckoned -/
/-- a fraction at p: two whole numbers below 2 ^ n, the second above 0 -/
structure Fq (H : Hp) (p : Addr) (x : Int × Int) (n : Nat) : Prop where
  at_ : H p = some (.tup [.int x.1, .int x.2])
  pos : 0 < x.2
  t : x.1.natAbs < 2 ^ n
  b : x.2.natAbs < 2 ^ n
theorem Fq.same {H H' : Hp} {p : Addr} {x : Int × Int} {n : Nat} (f : Fq H p x n) (s : Same H H') : Fq H' p x n := ⟨s _ _ f.at_, f.pos, f.t, f.b⟩
theorem Fq.mono {H : Hp} {p : Addr} {x : Int × Int} {n m : Nat} (f : Fq H p x n) (h : n ≤ m) : Fq H p x m :=
  ⟨f.at_, f.pos, Nat.lt_of_lt_of_le f.t (Nat.pow_le_pow_right (by decide) h), Nat.lt_of_lt_of_le f.b (Nat.pow_le_pow_right (by decide) h)⟩
def lowF (t b : Int) : Int × Int := (lowT t b, lowB t b)
theorem low_lt {t b : Int} {n : Nat} (h : 0 < b) (ht : t.natAbs < 2 ^ n) (hb : b.natAbs < 2 ^ n) : 0 < (lowF t b).2 ∧ (lowF t b).1.natAbs < 2 ^ n ∧ (lowF t b).2.natAbs < 2 ^ n := by
  obtain ⟨h1, h2⟩ := low_small t b h
  exact ⟨(low_fr t b h).1, Nat.lt_of_le_of_lt h1 ht, Nat.lt_of_le_of_lt h2 hb⟩
theorem add_lt {a b : Int} {n : Nat} (ha : a.natAbs < 2 ^ n) (hb : b.natAbs < 2 ^ n) : (a + b).natAbs < 2 ^ (n + 1) := by
  rw [Nat.pow_succ]
  omega
theorem sub_lt {a b : Int} {n : Nat} (ha : a.natAbs < 2 ^ n) (hb : b.natAbs < 2 ^ n) : (a - b).natAbs < 2 ^ (n + 1) := by
  rw [Nat.pow_succ]
  omega
theorem up_lt {a : Int} {n m : Nat} (ha : a.natAbs < 2 ^ n) (h : n ≤ m) : a.natAbs < 2 ^ m := Nat.lt_of_lt_of_le ha (Nat.pow_le_pow_right (by decide) h)
/-- the tops of the three -/
def plusT (x y : Int × Int) : Int := x.1 * y.2 + y.1 * x.2
def minusT (x y : Int × Int) : Int := x.1 * y.2 - y.1 * x.2
def timesT (x y : Int × Int) : Int := x.1 * y.1
def bots (x y : Int × Int) : Int := x.2 * y.2
def addF (x y : Int × Int) : Int × Int := lowF (plusT x y) (bots x y)
def sumF (l : List (Int × Int)) : Int × Int := l.foldl addF (0, 1)
/-- lowest of f and the bottoms' product -/
def spBin (f : Int × Int → Int × Int → Int) : Sp := fun vs H Q _ => ∃ (p q : Addr) (x y : Int × Int) (n : Nat), vs = [.ref p, .ref q] ∧ Fq H p x n ∧ Fq H q y n ∧ 0 < n ∧ n ≤ 4000 ∧
  ∀ (r : Addr) (H' : Hp), H r = none → Same H H' → H' r = some (.tup [.int (lowT (f x y) (bots x y)), .int (lowB (f x y) (bots x y))]) → Q (.ref r) H'
def spOver (C : Addr) : Sp := fun vs H Q E => ∃ (p q : Addr) (x y : Int × Int), vs = [.ref p, .ref q] ∧ Fq H p x 100 ∧ Fq H q y 100 ∧
  (y.1 ≠ 0 → ∀ (r : Addr) (H' : Hp), H r = none → Same H H' → H' r = some (.tup [.int (frT (x.1 * y.2) (x.2 * y.1)), .int (frB (x.1 * y.2) (x.2 * y.1))]) → Q (.ref r) H') ∧
  (y.1 = 0 → E (.ref C) none H)
def spUnder : Sp := fun vs H Q _ => ∃ (p q : Addr) (x y : Int × Int) (n : Nat), vs = [.ref p, .ref q] ∧ Fq H p x n ∧ Fq H q y n ∧ 0 < n ∧ n ≤ 4000 ∧ Q (.bl (decide (x.1 * y.2 < y.1 * x.2))) H
def frD (x : Int × Int) : D := .tup [.int x.1, .int x.2]
def smallF (n : Nat) (x : Int × Int) : Prop := 0 < x.2 ∧ x.1.natAbs < 2 ^ n ∧ x.2.natAbs < 2 ^ n
theorem Fq.of {H : Hp} {v : V} {x : Int × Int} {n : Nat} (h : Dt H v (frD x)) (s : smallF n x) : ∃ p, v = .ref p ∧ Fq H p x n := by
  cases h with
  | tup ha hall =>
    cases hall with
    | cons h1 hall =>
      cases hall with
      | cons h2 hall =>
        cases hall
        cases h1
        cases h2
        exact ⟨_, rfl, ha, s.1, s.2.1, s.2.2⟩
theorem Fq.dt {H : Hp} {p : Addr} {x : Int × Int} {n : Nat} (f : Fq H p x n) : Dt H (.ref p) (frD x) := .tup f.at_ (.cons (.int _) (.cons (.int _) .nil))
theorem addF_small {x y : Int × Int} {n m : Nat} (hx : smallF n x) (hy : smallF m y) : smallF (n + m + 1) (addF x y) :=
  low_lt (Int.mul_pos hx.1 hy.1) (add_lt (wide_lt hx.2.1 hy.2.2) (by rw [Nat.add_comm n m]; exact wide_lt hy.2.1 hx.2.2)) (up_lt (wide_lt hx.2.2 hy.2.2) (by omega))
theorem sum_small {l : List (Int × Int)} (h : ∀ x ∈ l, smallF 100 x) : ∀ k, smallF (1 + 101 * k) (sumF (l.take k))
  | 0 => (show smallF 1 (0, 1) from ⟨by decide, by decide, by decide⟩)
  | k + 1 => by
    have ih := sum_small h k
    rw [List.take_add_one]
    cases e : l[k]? with
    | none =>
      rw [Option.toList_none, List.append_nil]
      exact ⟨ih.1, up_lt ih.2.1 (by omega), up_lt ih.2.2 (by omega)⟩
    | some x =>
      rw [Option.toList_some]
      show smallF _ (List.foldl addF (0, 1) (l.take k ++ [x]))
      rw [List.foldl_append]
      have := addF_small ih (h x (List.mem_of_getElem? e))
      have e2 : 1 + 101 * k + 100 + 1 = 1 + 101 * (k + 1) := by omega
      rw [e2] at this
      exact this
def spSumOf : Sp := fun vs H Q _ => ∃ (l : Addr) (xs : List V) (ps : List (Int × Int)), vs = [.ref l] ∧ H l = some (.lst xs) ∧ DtAll H xs (ps.map frD) ∧ (∀ x ∈ ps, smallF 100 x) ∧ ps.length ≤ 30 ∧
  ∀ (r : Addr) (H' : Hp), H r = none → Same H H' → H' r = some (.tup [.int (sumF ps).1, .int (sumF ps).2]) → Q (.ref r) H'
section
variable {P : Program} {w : World} {K : PySem.W.Frag} {mg : Str → Option Value} {base : Heap}
theorem o_times (T : Txt K mg) : OkF P w K mg base CX0 3 "times" ["one", "other"] (spBin timesT) := by
  have o_lowest := o_lowest (P := P) (w := w) (base := base) T
  refine T.f_times.ok c_times (fun vs H Q E h => ?_) (fun f cdv A outer s H vs Q E hr h => ?_)
  · obtain ⟨p, q, x, y, n, rfl, _⟩ := h
    rfl
  · obtain ⟨p, q, x, y, n, rfl, fx, fy, n0, n4, k⟩ := h
    refine ⟨_, (pss_one (ps_ret (pe_c o_lowest hr (pa_cons (pe_op op_mulW (pe_ix (ix_tup_k K) (pv 0) pe_int (fun _ _ => rfl)) (pe_ix (ix_tup_k K) (pv 1) pe_int (fun _ _ => rfl))) (pa_cons (pe_op op_mulW (pe_ix (ix_tup_k K) (pv 0) pe_int (fun _ _ => rfl)) (pe_ix (ix_tup_k K) (pv 1) pe_int (fun _ _ => rfl))) pa_nil))))), ?_⟩
    refine ⟨_, rfl, _, _, _, _, rfl, rfl, SqT.of fx.at_, rfl, _, rfl, _, _, _, _, rfl, rfl, SqT.of fy.at_, rfl, _, _, rfl, rfl, wide_mul fx.t fy.t n0 n0 (by omega), ?_⟩
    refine ⟨_, rfl, _, _, _, _, rfl, rfl, SqT.of fx.at_, rfl, _, rfl, _, _, _, _, rfl, rfl, SqT.of fy.at_, rfl, _, _, rfl, rfl, wide_mul fx.b fy.b n0 n0 (by omega), ?_⟩
    exact ⟨_, _, rfl, Int.mul_pos fx.pos fy.pos, log_small (n := n + n) (by omega) (wide_lt fx.b fy.b) (by omega), k⟩
end
end Dear

namespace Dear
open PySem PySem.Spec PyProof.Rows L2
/-! ### orders of things -/
def vsN (is : List Nat) : List V := is.map fun i => V.int (i : Nat)
def ordD (is : List Nat) : D := .lst (is.map fun i => D.int (i : Nat))
/-- an order of so many things -/
def OrdOk (n : Nat) (e : D) : Prop := ∃ is : List Nat, e = ordD is ∧ is.Perm (List.range n)
theorem vsN_len (is : List Nat) : (vsN is).length = is.length := List.length_map ..
theorem vsN_int (is : List Nat) : vsN is = (is.map fun i => ((i : Nat) : Int)).map V.int := by
  unfold vsN
  rw [List.map_map]
  rfl
theorem vsN_get {is : List Nat} {k o : Nat} (h : is[k]? = some o) : (vsN is)[k]? = some (.int (o : Nat)) := by
  unfold vsN
  rw [List.getElem?_map, h]
  rfl
theorem vsN_inv {is : List Nat} {k : Nat} {v : V} (h : (vsN is)[k]? = some v) : ∃ o : Nat, is[k]? = some o ∧ v = .int (o : Nat) := by
  unfold vsN at h
  rw [List.getElem?_map] at h
  cases e : is[k]? with
  | none => rw [e] at h; cases h
  | some o => rw [e] at h; exact ⟨o, rfl, (Option.some.inj h).symm⟩
theorem dt_vsN {H : Hp} : ∀ is : List Nat, DtAll H (vsN is) (is.map fun i => D.int (i : Nat))
  | [] => .nil
  | _ :: is => .cons (.int _) (dt_vsN is)
theorem DtAll.ints {H : Hp} : ∀ {xs : List V} {ds : List D}, DtAll H xs ds → ds.all isInt = true → ∃ ns : List Int, ds = ns.map D.int ∧ xs = ns.map V.int
  | _, _, .nil, _ => ⟨[], rfl, rfl⟩
  | _, _, .cons (d := d) h1 h2, h => by
    rw [List.all_cons, Bool.and_eq_true] at h
    obtain ⟨ns, e1, e2⟩ := DtAll.ints h2 h.2
    cases h1 with
    | int i => exact ⟨i :: ns, by rw [e1]; rfl, by rw [e2]; rfl⟩
    | _ => cases h.1
theorem DtAll.nats {H : Hp} : ∀ {xs : List V} {is : List Nat}, DtAll H xs (is.map fun i => D.int (i : Nat)) → xs = vsN is
  | _, [], .nil => rfl
  | _, i :: is, .cons h t => by
    have h : Dt H _ (D.int ((i : Nat) : Int)) := h
    cases h
    rw [DtAll.nats t]
    rfl
theorem ord_at {H : Hp} {v : V} {is : List Nat} (h : Dt H v (ordD is)) : ∃ b : Addr, v = .ref b ∧ H b = some (.lst (vsN is)) := by
  unfold ordD at h
  cases h with
  | lst hb hall =>
    rw [hall.nats] at hb
    exact ⟨_, rfl, hb⟩
theorem ord_dt {H : Hp} {b : Addr} {is : List Nat} (h : H b = some (.lst (vsN is))) : Dt H (.ref b) (ordD is) := .lst h (dt_vsN is)
theorem DtAll.ints' {H : Hp} : ∀ {xs : List V} {ns : List Int}, DtAll H xs (ns.map D.int) → xs = ns.map V.int
  | _, [], .nil => rfl
  | _, _ :: _, .cons (.int i) t => by
    rw [DtAll.ints' t]
    rfl
theorem dt_ints {H : Hp} : ∀ ns : List Int, DtAll H (ns.map V.int) (ns.map D.int)
  | [] => .nil
  | _ :: ns => .cons (.int _) (dt_ints ns)
theorem ordD_int (is : List Nat) : ordD is = .lst ((is.map fun i => ((i : Nat) : Int)).map D.int) := by
  unfold ordD
  rw [List.map_map]
  rfl
theorem ints_facts {ns : List Int} (h : ∀ n ∈ ns, Ok (.int n)) : Ok (.lst (ns.map D.int)) ∧ NoD (.lst (ns.map D.int)) ∧ dep (.lst (ns.map D.int)) ≤ 64 := by
  refine ⟨?_, ?_, ?_⟩
  · show OkAll (ns.map D.int)
    induction ns with
    | nil => trivial
    | cons w r ih => exact ⟨h w List.mem_cons_self, ih fun x hx => h x (List.mem_cons_of_mem _ hx)⟩
  · refine noAll_of fun d hd => ?_
    obtain ⟨w, hw, rfl⟩ := List.mem_map.mp hd
    trivial
  · have := depAll_le (ds := ns.map D.int) (n := 0) fun d hd => by
      obtain ⟨w, hw, rfl⟩ := List.mem_map.mp hd
      exact Nat.le_refl _
    show depAll (ns.map D.int) + 1 ≤ 64
    omega
theorem eqv_ints : ∀ a b : List Int, PyData.eqv (py (.lst (a.map D.int))) (py (.lst (b.map D.int))) = decide (a = b) := by
  have key : ∀ a b : List Int, PyData.eqvAll (pyAll (a.map D.int)) (pyAll (b.map D.int)) = decide (a = b) := by
    intro a
    induction a with
    | nil =>
      intro b
      cases b with
      | nil => rw [decide_eq_true rfl]; simp [PyData.eqvAll, pyAll]
      | cons y b => rw [decide_eq_false (by simp)]; simp [PyData.eqvAll, pyAll]
    | cons x a ih =>
      intro b
      cases b with
      | nil => rw [decide_eq_false (by simp)]; simp [PyData.eqvAll, pyAll]
      | cons y b =>
        have e : PyData.eqvAll (pyAll ((x :: a).map D.int)) (pyAll ((y :: b).map D.int)) = (PyData.eqv (.int x) (.int y) && PyData.eqvAll (pyAll (a.map D.int)) (pyAll (b.map D.int))) := by
          simp [PyData.eqvAll, pyAll, py]
        rw [e, ih b]
        have e2 : PyData.eqv (.int x) (.int y) = decide (x = y) := by
          simp only [PyData.eqv]
          by_cases h : x = y
          · rw [h, decide_eq_true rfl]
            simp
          · rw [decide_eq_false h]
            exact beq_eq_false_iff_ne.mpr h
        rw [e2]
        by_cases h : x = y <;> by_cases h' : a = b <;> simp [h, h']
  intro a b
  have e : PyData.eqv (py (.lst (a.map D.int))) (py (.lst (b.map D.int))) = PyData.eqvAll (pyAll (a.map D.int)) (pyAll (b.map D.int)) := by
    simp only [py, PyData.eqv]
  rw [e, key]
/-- the numbers ahead of n -/
def rgI (n : Nat) : List Int := (List.range n).map fun i => ((i : Nat) : Int)
theorem rgV_0 (n : Nat) : rgV 0 (n : Int) = (rgI n).map V.int := by
  unfold rgV rgI
  rw [List.map_map, show ((n : Int) - 0).toNat = n by omega]
  refine List.map_congr_left fun i _ => ?_
  show V.int (0 + (i : Int)) = V.int (i : Nat)
  rw [Int.zero_add]
theorem rgI_sorted (n : Nat) : (rgI n).Pairwise (· ≤ ·) := by
  unfold rgI
  rw [List.pairwise_map]
  refine List.Pairwise.imp (fun h => ?_) (List.pairwise_lt_range (n := n))
  omega
theorem ordOk_ints {n : Nat} {ns ns' : List Int} (p : ns'.Perm ns) (s : ns'.Pairwise (· ≤ ·)) : OrdOk n (.lst (ns.map D.int)) ↔ ns' = rgI n := by
  constructor
  · rintro ⟨is, e, pm⟩
    rw [ordD_int] at e
    injection e with e
    have e : ns = is.map fun i => ((i : Nat) : Int) := by
      have inj : ∀ {a b : List Int}, a.map D.int = b.map D.int → a = b := by
        intro a
        induction a with
        | nil => intro b h; cases b with
          | nil => rfl
          | cons _ _ => cases h
        | cons x a ih => intro b h; cases b with
          | nil => cases h
          | cons y b =>
            rw [List.map_cons, List.map_cons] at h
            injection h with h1 h2
            injection h1 with h1
            rw [h1, ih h2]
      exact inj e
    subst e
    exact List.Perm.eq_of_pairwise (fun _ _ _ _ h1 h2 => Int.le_antisymm h1 h2) s (rgI_sorted n) (p.trans (pm.map _))
  · intro e
    subst e
    have h : (rgI n).map Int.toNat = List.range n := by
      unfold rgI
      rw [List.map_map]
      have : (Int.toNat ∘ fun i : Nat => (i : Int)) = id := by
        funext i
        rfl
      rw [this, List.map_id]
    refine ⟨ns.map Int.toNat, ?_, ?_⟩
    · have : ∀ x ∈ ns, ((fun i : Nat => (i : Int)) ∘ Int.toNat) x = x := fun x hx => by
        have hx : x ∈ rgI n := p.mem_iff.mpr hx
        obtain ⟨i, _, rfl⟩ := List.mem_map.mp hx
        rfl
      have e : (ns.map Int.toNat).map (fun i => ((i : Nat) : Int)) = ns := by
        rw [List.map_map, List.map_congr_left this, List.map_id']
      rw [ordD_int, e]
    · rw [← h]
      exact (p.map _).symm
theorem ordOk_all {n : Nat} {ds : List D} (h : OrdOk n (.lst ds)) : ds.all isInt = true := by
  obtain ⟨is, e, _⟩ := h
  injection e with e
  subst e
  rw [List.all_eq_true]
  intro d hd
  obtain ⟨i, _, rfl⟩ := List.mem_map.mp hd
  rfl
/-- at the place is[k] what stood at k -/
structure PutSo (xs : List V) (is : List Nat) (ys : List V) : Prop where
  len : ys.length = xs.length
  put : ∀ k o : Nat, is[k]? = some o → ys[o]? = xs[k]?
def shortL : D → Prop
  | .lst ds => ds.length < 64
  | _ => True
def spOrder (C : Addr) : Sp := fun vs H Q E => ∃ (n : Nat) (v : V) (e : D), vs = [.int (n : Nat), v] ∧ Dt H v e ∧ Ok e ∧ shortL e ∧ n ≤ 1000 ∧ (OrdOk n e → ∀ H', Same H H' → Q .non H') ∧ (¬ OrdOk n e → ∀ H', Same H H' → E (.ref C) none H')
def spPutSo : Sp := fun vs H Q _ => ∃ (a b : Addr) (xs : List V) (is : List Nat), vs = [.ref a, .ref b] ∧ H a = some (.lst xs) ∧ H b = some (.lst (vsN is)) ∧ is.Perm (List.range xs.length) ∧
  ∀ (q : Addr) (ys : List V) (H' : Hp), H q = none → Same H H' → H' q = some (.lst ys) → PutSo xs is ys → Q (.ref q) H'
/-- of a list and an order of it -/
def PutIn (H : Hp) (a : Addr) (e : D) (C : Addr) (Q : VK) (E : XK) : Prop := ∃ xs : List V, H a = some (.lst xs) ∧ xs.length ≤ 1000 ∧ (¬ OrdOk xs.length e → ∀ H', Same H H' → E (.ref C) none H') ∧
  ∀ is : List Nat, e = ordD is → is.Perm (List.range xs.length) → ∀ (q : Addr) (ys : List V) (H' : Hp), H q = none → Same H H' → H' q = some (.lst ys) → PutSo xs is ys → Q (.ref q) H'
def spPutBook (C : Addr) : Sp := fun vs H Q E => ∃ (a : Addr) (v : V) (e : D), vs = [.ref a, v] ∧ Dt H v e ∧ Ok e ∧ shortL e ∧ PutIn H a e C Q E
def spPutWants (W C : Addr) : Sp := fun vs H Q E => ∃ (u v : V) (d e : D), vs = [u, v] ∧ Dt H u d ∧ Ok d ∧ Dt H v e ∧ Ok e ∧ shortL e ∧
  (∀ m, wantsBad d = some m → ∀ (dd : Addr) (H' : Hp), Same H H' → H dd = none → H' dd = some (.xd [("number", m)]) → E (.ref W) (some dd) H') ∧
  (wantsBad d = none → ∀ a, u = .ref a → PutIn H a e C Q E)
end Dear

namespace Dear
open PySem PySem.Spec PyProof.Rows L2
/-! ### author C's wants -/
def nameC (r k : Nat) : List Nat := letN ((r + k) % 26) :: repT [122] (k % 8 * (r % 2))
theorem letN_inj : ∀ a < 26, ∀ b < 26, letN a = letN b → a = b := by decide +kernel
theorem nameC_len (r k : Nat) : 1 ≤ (nameC r k).length ∧ (nameC r k).length ≤ 8 := by
  unfold nameC
  rw [List.length_cons, repT_len]
  have h1 : k % 8 ≤ 7 := by omega
  have h2 : r % 2 ≤ 1 := by omega
  have := Nat.mul_le_mul h1 h2
  show 1 ≤ k % 8 * (r % 2) * 1 + 1 ∧ k % 8 * (r % 2) * 1 + 1 ≤ 8
  omega
theorem nameC_mem (r k : Nat) : ∀ c ∈ nameC r k, c ∈ letters.cps.toList := fun c hc => by
  rcases List.mem_cons.mp hc with rfl | hc
  · exact letN_mem (Nat.mod_lt _ (by decide))
  · unfold repT at hc
    obtain ⟨l, hl, hc⟩ := List.mem_flatten.mp hc
    have := List.eq_of_mem_replicate hl
    subst this
    have : c = 122 := by simpa using hc
    subst this
    decide +kernel
theorem namesC_nodup (r n : Nat) (h : n ≤ 26) : ((List.range n).map fun k => nameC r k).Nodup := by
  rw [List.nodup_iff_pairwise_ne, List.pairwise_map]
  refine List.Pairwise.imp_of_mem ?_ (List.nodup_iff_pairwise_ne.mp List.nodup_range)
  intro a b ha hb hne e
  have ha := List.mem_range.mp ha
  have hb := List.mem_range.mp hb
  unfold nameC at e
  injection e with e _
  have := letN_inj _ (Nat.mod_lt _ (by decide)) _ (Nat.mod_lt _ (by decide)) e
  omega
/-- the sizes of a row of wants -/
def sizesC (n : Nat) : List Int := [4, 26] ++ (List.replicate n [(9 : Int), 1000000000]).flatten
theorem rep2_at {a b : Int} : ∀ {n k : Nat}, k < n → (List.replicate n [a, b]).flatten[2 * k]? = some a ∧ (List.replicate n [a, b]).flatten[2 * k + 1]? = some b
  | n + 1, 0, _ => ⟨rfl, rfl⟩
  | n + 1, k + 1, h => by
    have ih := rep2_at (a := a) (b := b) (n := n) (k := k) (by omega)
    rw [List.replicate_succ, List.flatten_cons]
    exact ih
theorem rep2_len {a b : Int} (n : Nat) : (List.replicate n [a, b]).flatten.length = 2 * n := by
  induction n with
  | zero => rfl
  | succ n ih =>
    rw [List.replicate_succ, List.flatten_cons, List.length_append, ih]
    show 2 + 2 * n = 2 * (n + 1)
    omega
theorem sizesC_at {n k : Nat} (h : k < n) : (sizesC n)[2 + 2 * k]? = some 9 ∧ (sizesC n)[3 + 2 * k]? = some 1000000000 := by
  have ih := rep2_at (a := 9) (b := 1000000000) h
  unfold sizesC
  constructor
  · rw [List.getElem?_append_right (by show 2 ≤ _; omega)]
    show _[2 + 2 * k - 2]? = _
    rw [show 2 + 2 * k - 2 = 2 * k by omega]
    exact ih.1
  · rw [List.getElem?_append_right (by show 2 ≤ _; omega)]
    show _[3 + 2 * k - 2]? = _
    rw [show 3 + 2 * k - 2 = 2 * k + 1 by omega]
    exact ih.2
theorem sizesC_pos (n : Nat) : ∀ m ∈ sizesC n, 0 < m ∧ m ≤ 1000000000 := fun m hm => by
  unfold sizesC at hm
  rcases List.mem_append.mp hm with hm | hm
  · simp only [List.mem_cons, List.not_mem_nil, or_false] at hm
    rcases hm with rfl | rfl <;> decide
  · obtain ⟨l, hl, hm⟩ := List.mem_flatten.mp hm
    have := List.eq_of_mem_replicate hl
    subst this
    simp only [List.mem_cons, List.not_mem_nil, or_false] at hm
    rcases hm with rfl | rfl <;> decide
theorem sizesC_len (n : Nat) : (sizesC n).length = 2 + 2 * n := by
  unfold sizesC
  rw [List.length_append, rep2_len]
  rfl
theorem sizesC_D (n : Nat) : ([D.int 4, D.int 26] ++ (List.replicate n [D.int 9, D.int ((10 : Int) ^ (9 : Int).toNat)]).flatten) = (sizesC n).map D.int := by
  unfold sizesC
  rw [List.map_append, List.map_flatten, List.map_replicate]
  rfl
def spWantsC (K : PySem.W.Frag) : Sp := fun vs H Q _ => ∃ (a : Addr) (ns : List Int) (t : Int) (n : Nat), vs = [.ref a, .int t, .int (n : Nat)] ∧ SqL K H a (ns.map V.int) ∧ 0 ≤ t ∧ n ≤ 20 ∧
  ∀ (p : Addr) (xs : List V) (ws : List (List Nat × Int)) (H' : Hp), H p = none → Same H H' → H' p = some (.lst xs) → DtAll H' xs (ws.map wantD) → WsOk ws → ws.length = n → Q (.ref p) H'
theorem pu_wants : ∀ {ws : List (List Nat × Int)}, PuAll (ws.map wantD) := by
  intro ws
  induction ws with
  | nil => trivial
  | cons w r ih => exact ⟨⟨trivial, trivial, trivial⟩, ih⟩
theorem pick4 {x y : Int} {r : Nat} (hr : r < 4) (x0 : 0 ≤ x) (x9 : x < 9) (y0 : 0 ≤ y) (y9 : y < 1000000000) : ∃ c : Int, [D.int x, D.int x, D.int (y + 1), D.int 3][r]? = some (.int c) ∧ 0 ≤ c ∧ c ≤ 1000000000 := by
  match r, hr with
  | 0, _ => exact ⟨x, rfl, x0, by omega⟩
  | 1, _ => exact ⟨x, rfl, x0, by omega⟩
  | 2, _ => exact ⟨y + 1, rfl, by omega, by omega⟩
  | 3, _ => exact ⟨3, rfl, by decide, by decide⟩
section
variable {P : Program} {w : World} {K : PySem.W.Frag} {mg : Str → Option Value} {base : Heap}
theorem o__law_wants (T : Txt K mg) : OkF P w K mg base CX0 2 "_law_wants" ["_law_script", "_law_at", "_law_many"] (spWantsC K) := by
  have o__law_cell := o__law_cell (P := P) (w := w) (base := base) T
  have o__law_draws := o__law_draws (P := P) (w := w) (base := base) T
  refine T.f__law_wants.ok c__law_wants (fun vs H Q E h => ?_) (fun f cdv A outer s H vs Q E hr h => ?_)
  · obtain ⟨a, ns, t, n, rfl, _⟩ := h
    rfl
  · obtain ⟨a, ns, t, n, rfl, hS, t0, n20, q⟩ := h
    refine ⟨_, (pss_cons (ps_set (i := 3) c__law_wants.nd rfl (Or.inl rfl) (pe_c o__law_draws hr (pa_cons (pe_c o__law_cell hr (pa_cons (pv 0) (pa_cons (pv 1) pa_nil))) (pa_cons (pv 1) (pa_cons (pe_op op_cat (pe_lst (pa_cons pe_int (pa_cons pe_int pa_nil))) (pe_op op_rep (pe_lst (pa_cons pe_int (pa_cons (pe_op op_pow pe_int pe_int) pa_nil))) (pv 2))) pa_nil)))))
(pss_cons (ps_set (i := 4) c__law_wants.nd rfl (Or.inl rfl) pe_str)
(pss_cons (ps_set (i := 5) c__law_wants.nd rfl (Or.inl rfl) (pe_lst pa_nil))
(pss_cons (ps_for PassesOwn.never rfl (pi_range1 (by rfl) T.b_range (pa_cons (pv 2) pa_nil)) (pg_name (i := 6) c__law_wants.nd rfl (Or.inl rfl))
(pss_cons (ps_set (i := 7) c__law_wants.nd rfl (Or.inl rfl) (pe_ix (ix_list_k K) (pe_lst (pa_cons (pe_ix (ix_list_k K) (pv 3) (pe_op op_add pe_int (pe_op op_mul pe_int (pv 6))) (fun _ _ => rfl)) (pa_cons (pe_ix (ix_list_k K) (pv 3) (pe_op op_add pe_int (pe_op op_mul pe_int (pv 6))) (fun _ _ => rfl)) (pa_cons (pe_op op_add (pe_ix (ix_list_k K) (pv 3) (pe_op op_add pe_int (pe_op op_mul pe_int (pv 6))) (fun _ _ => rfl)) pe_int) (pa_cons pe_int pa_nil))))) (pe_ix (ix_list_k K) (pv 3) pe_int (fun _ _ => rfl)) (fun _ _ => rfl)))
(pss_cons (ps_set (i := 8) c__law_wants.nd rfl (Or.inl rfl) (pe_op op_add_str (pe_ix ix_str (pv 4) (pe_op op_mod (pe_op op_add (pe_ix (ix_list_k K) (pv 3) pe_int (fun _ _ => rfl)) (pv 6)) pe_int) (fun _ _ => rfl)) (pe_op op_repS pe_str (pe_op op_mul (pe_op op_mod (pv 6) pe_int) (pe_op op_mod (pe_ix (ix_list_k K) (pv 3) pe_int (fun _ _ => rfl)) pe_int)))))
(pss_one (ps_expr (pe_bm PySem.F.plainAttrs_list PySem.F.slot_list_append PySem.F.type_list_append mt_append (pv 5) (pa_cons (pe_tup (pa_cons (pv 8) (pa_cons (pv 7) pa_nil))) pa_nil)))))))
(pss_one (ps_ret (pv 5))))))), ?_⟩
    refine ⟨_, rfl, _, rfl, a, ns, t, rfl, hS, t0, fun z => ⟨_, rfl, ?_⟩⟩
    refine s_cons (MkE.go (d := .lst ((sizesC n).map D.int)) (mke_eq (mke_cat (mke_lst (mkea_cons (mke_c fun _ => .int _) (mkea_cons (mke_c fun _ => .int _) mkea_nil))) (mke_rep (n := n) (mke_lst (mkea_cons (mke_c fun _ => .int _) (mkea_cons (mke_pow ⟨by decide, by decide, by decide⟩) mkea_nil))) (mke_var rfl (.int _)) (by omega) (by show 2 * n ≤ 1000; omega)) ?_) (by rw [sizesC_D])) fun v H1 s1 d1 => ?_)
    · have := rep2_len (a := 9) (b := 1000000000) n
      have e := congrArg List.length (sizesC_D n)
      rw [List.length_append, List.length_map, sizesC_len] at e
      omega
    obtain ⟨p1, xs1, rfl, hp1, hall1⟩ := d1.lstAt
    have e1 := hall1.ints'
    subst e1
    refine ⟨_, _, p1, _, rfl, SqL.of hp1, by rw [sizesC_len]; omega, sizesC_pos n, fun p2 rs H2 hp2 s2 h2 dr => ?_⟩
    obtain ⟨r0, hr0, r00, r01⟩ := dr.at (i := 0) (m := 4) rfl
    obtain ⟨r1, hr1, r10, r11⟩ := dr.at (i := 1) (m := 26) rfl
    obtain ⟨m0, rfl⟩ := Int.eq_ofNat_of_zero_le r00
    obtain ⟨m1, rfl⟩ := Int.eq_ofNat_of_zero_le r10
    refine ⟨(by show 0 ≤ sizeLine; decide), fun p hp => ?_⟩
    have s12 := s1.trans s2
    have u3 := Same.upd (o := .lst []) hp
    have hpH := same_none s12 hp
    have z26 : letters.length ≤ sizeLine := by decide +kernel
    refine ⟨_, rfl, _, rfl, by omega, by omega, for_range (lo := 0) (n := n) (fun j σ H' => Same H H' ∧ H' p2 = some (.lst (rs.map V.int)) ∧ ∃ (xs : List V) (ws : List (List Nat × Int)) (v6 v7 v8 : Option V), σ = [some (.ref a), some (.int t), some (.int (n : Nat)), some (.ref p2), some (.str letters), some (.ref p), v6, v7, v8] ∧ H' p = some (.lst xs) ∧ DtAll H' xs (ws.map wantD) ∧ ws.map Prod.fst = (List.range j).map (fun k => nameC m1 k) ∧ ∀ w ∈ ws, 0 ≤ w.2 ∧ w.2 ≤ 1000000000)
      ⟨s12.trans u3, u3 _ _ h2, [], [], _, _, _, rfl, upd_same, .nil, rfl, (fun _ h => nomatch h)⟩ ?_ ?_⟩
    · rintro j σ H4 hj ⟨s4, h24, xs, ws, v6, v7, v8, rfl, hx, hd, hn, hc⟩
      rw [Int.zero_add]
      have lw : ws.length = j := by
        have := congrArg List.length hn
        simpa using this
      have dRow : Dt H4 (.ref p2) (.lst (rs.map D.int)) := .lst h24 (dt_ints rs)
      obtain ⟨sa, sb⟩ := sizesC_at hj
      obtain ⟨x, hx1, x0, x9⟩ := dr.at sa
      obtain ⟨y, hy1, y0, y9⟩ := dr.at sb
      have gD : ∀ {i : Nat} {z : Int}, rs[i]? = some z → (rs.map D.int)[i]? = some (.int z) := fun {i z} h => by
        rw [List.getElem?_map, h]
        rfl
      obtain ⟨c, hc4, c0, c9⟩ := pick4 (x := x) (y := y) (r := m0) (by omega) x0 x9 y0 y9
      have i2 : ∀ {i : Int} {u : Nat} {σ : L2.St}, σ[6]? = some (some (.int (j : Nat))) → i = (u : Nat) → MkE σ (tOp (rI0 fun i j => .int (i + j)) (tC (.int i)) (tOp (rI CMul fun i j => .int (i * j)) (tC (.int 2)) (tVar 6))) H4 (.int ((u + 2 * j : Nat) : Int)) := fun {i u σ} hσ hi => by
        subst hi
        exact mke_eq (mke_add (mke_c fun _ => .int _) (mke_mul (mke_c fun _ => .int _) (mke_var hσ (.int _)) (.inl ⟨by decide, by decide⟩))) (by congr 1)
      refine MkE.go (d := .int c) (mke_ix (n := m0) (mke_lst (mkea_cons (mke_ix (mke_var rfl dRow) (i2 rfl rfl) (gD hx1)) (mkea_cons (mke_ix (mke_var rfl dRow) (i2 rfl rfl) (gD hx1)) (mkea_cons (mke_add (mke_ix (mke_var rfl dRow) (i2 rfl rfl) (gD hy1)) (mke_c fun _ => .int _)) (mkea_cons (mke_c fun _ => .int _) mkea_nil))))) (mke_ix (n := 0) (mke_var rfl dRow) (mke_c fun _ => .int _) (gD hr0)) hc4) fun v H5 s5 d5 => ?_
      have := d5.intAt
      subst this
      have aR : ∀ {H' : Hp}, Same H4 H' → SqL K H' p2 (rs.map V.int) := fun s' => SqL.of (s' _ _ h24)
      have a1 : atI (rs.map V.int) 1 = some (.int (m1 : Nat)) := by
        have : (rs.map V.int)[1]? = some (.int (m1 : Nat)) := by
          rw [List.getElem?_map, hr1]
          rfl
        exact atI_nat this
      refine ⟨_, rfl, _, rfl, _, _, _, _, rfl, rfl, aR s5, a1, _, rfl, _, _, rfl, rfl, _, _, rfl, rfl, (by show (0 : Int) < 26; decide), letters, (((m1 + j) % 26 : Nat) : Int), letN ((m1 + j) % 26), rfl, (by show V.int _ = V.int _; congr 1), z26, letN_atI (Nat.mod_lt _ (by decide)), ?_⟩
      refine ⟨_, rfl, _, _, rfl, rfl, (by show (0 : Int) < 8; decide), _, rfl, _, _, _, _, rfl, rfl, aR s5, a1, _, _, rfl, rfl, (by show (0 : Int) < 2; decide), _, _, rfl, rfl, .inl ⟨by omega, by omega⟩, ?_⟩
      have em : ((j : Int) % 8) * ((m1 : Int) % 2) = ((j % 8 * (m1 % 2) : Nat) : Int) := by
        rw [Int.natCast_mul]
        rfl
      have mb : j % 8 * (m1 % 2) ≤ 7 := by
        have h1 : j % 8 ≤ 7 := by omega
        have h2 : m1 % 2 ≤ 1 := by omega
        exact Nat.mul_le_mul h1 h2
      refine ⟨[122], ((j % 8 * (m1 % 2) : Nat) : Int), rfl, (by show V.int _ = V.int _; rw [em]), by omega, by omega, by decide, ?_⟩
      refine ⟨_, _, rfl, rfl, ?_, ?_⟩
      · rw [txt_length, repT_len]
        exact sz_lit (by show 1 + _ * 1 ≤ 1000; rw [Int.toNat_natCast]; omega)
      dsimp only
      rw [Int.toNat_natCast, show (⟨#[letN ((m1 + j) % 26)]⟩ : Str) ++ txt (repT [122] (j % 8 * (m1 % 2))) = txt (nameC m1 j) from txt_app [letN ((m1 + j) % 26)] _]
      have hx5 := s5 _ _ hx
      refine ⟨_, rfl, .inl ⟨rfl, _, SqL.of hx5⟩, _, rfl, _, rfl, (by show 2 ≤ sizeLine; decide), fun r hr6 => ?_⟩
      have s7 := Same.upd (o := .tup [.str (txt (nameC m1 j)), .int c]) hr6
      have s57 := s5.trans s7
      have hx7 := s57 _ _ hx
      have ner : r ≠ p := fun z => by
        subst z
        rw [hx5] at hr6
        cases hr6
      have lx : xs.length = j := by
        rw [hd.length, List.length_map, lw]
      refine ⟨p, _, _, rfl, rfl, hx7, small1000 (by omega), ?_, ?_, xs ++ [.ref r], ws ++ [(nameC m1 j, c)], _, _, _, rfl, upd_same, ?_, ?_, ?_⟩
      · intro b o hb
        rw [upd_ne (ne_of_none hb hpH)]
        exact s57 _ _ (s4 _ _ hb)
      · rw [upd_ne (fun z => by subst z; rw [h2] at hp; cases hp)]
        exact s57 _ _ h24
      · rw [List.map_append]
        have tp := TP.upd (o := .lst (xs ++ [.ref r])) hx7
        refine (DtAll.tp tp pu_wants (hd.same s57)).app (.cons ?_ .nil)
        refine .tup ?_ (.cons (.str _) (.cons (.int _) .nil))
        rw [upd_ne ner]
        exact upd_same
      · rw [List.map_append, hn, List.range_succ, List.map_append]
        rfl
      · intro w hw
        rcases List.mem_append.mp hw with hw | hw
        · exact hc w hw
        · have : w = (nameC m1 j, c) := by simpa using hw
          subst this
          exact ⟨c0, c9⟩
    · rintro σ H4 ⟨s4, h24, xs, ws, v6, v7, v8, rfl, hx, hd, hn, hc⟩
      have lw : ws.length = n := by
        have := congrArg List.length hn
        simpa using this
      refine ⟨_, rfl, q p xs ws H4 hpH s4 hx hd ⟨fun w hw => ?_, ?_⟩ lw⟩
      · have : w.1 ∈ (List.range n).map (fun k => nameC m1 k) := by
          rw [← hn]
          exact List.mem_map_of_mem hw
        obtain ⟨k, _, e⟩ := List.mem_map.mp this
        have n1 := nameC_mem m1 k
        obtain ⟨n2, n3⟩ := nameC_len m1 k
        rw [e] at n1 n2 n3
        exact ⟨n1, n2, n3, (hc w hw).1, (hc w hw).2⟩
      · rw [hn]
        exact namesC_nodup m1 _ (by omega)
end
end Dear

namespace Dear
open PySem PySem.Spec PyProof.Rows L2
/-! ### author C's tongues -/
theorem code_injC {s st : Int} (hst : st = 1 ∨ st = 3 ∨ st = 5 ∨ st = 7 ∨ st = 9 ∨ st = 11) {i j : Nat} (hi : i < 6) (hj : j < 6) (h : codeAt s st i = codeAt s st j) : i = j := by
  have a := code_mem s st i
  have b := code_mem s st j
  rw [← h] at b
  have e := nd_ix let_nodup a b
  have i0 : 0 ≤ (s + st * (i : Int)) % 26 := Int.emod_nonneg _ (by decide)
  have j0 : 0 ≤ (s + st * (j : Int)) % 26 := Int.emod_nonneg _ (by decide)
  rcases hst with rfl | rfl | rfl | rfl | rfl | rfl <;> omega
theorem cds_nodupC {s st : Int} (hst : st = 1 ∨ st = 3 ∨ st = 5 ∨ st = 7 ∨ st = 9 ∨ st = 11) {n : Nat} (hn : n ≤ 6) : (cds s st n).Nodup := by
  unfold cds
  rw [List.nodup_iff_pairwise_ne, List.pairwise_map]
  refine List.Pairwise.imp_of_mem ?_ (List.nodup_iff_pairwise_ne.mp List.nodup_range)
  intro a b ha hb hne e
  exact hne (code_injC hst (by have := List.mem_range.mp ha; omega) (by have := List.mem_range.mp hb; omega) e)
theorem stepC {v : V} (h : v ∈ [V.int 1, V.int 3, V.int 5, V.int 7, V.int 9, V.int 11]) : ∃ m : Int, v = .int m ∧ (m = 1 ∨ m = 3 ∨ m = 5 ∨ m = 7 ∨ m = 9 ∨ m = 11) := by
  simp only [List.mem_cons, List.not_mem_nil, or_false] at h
  rcases h with rfl | rfl | rfl | rfl | rfl | rfl
  · exact ⟨1, rfl, by decide⟩
  · exact ⟨3, rfl, by decide⟩
  · exact ⟨5, rfl, by decide⟩
  · exact ⟨7, rfl, by decide⟩
  · exact ⟨9, rfl, by decide⟩
  · exact ⟨11, rfl, by decide⟩
def StepC (st : Int) : Prop := st = 1 ∨ st = 3 ∨ st = 5 ∨ st = 7 ∨ st = 9 ∨ st = 11
def spLettersC (K : PySem.W.Frag) : Sp := fun vs H Q _ => ∃ (p : Addr) (rs : List Int) (m : Nat) (sh j : Int), vs = [.ref p, .int (m : Nat)] ∧ SqL K H p (rs.map V.int) ∧ rs[2]? = some sh ∧ rs[3]? = some j ∧ 0 ≤ sh ∧ sh < 26 ∧ 0 ≤ j ∧ j < 6 ∧ m ≤ 6 ∧
  ∀ (q : Addr) (st : Int) (H' : Hp), H q = none → Same H H' → H' q = some (.lst (((cds sh st m).map sgn).map V.str)) → StepC st → Q (.ref q) H'
def spSignC : Sp := fun vs H Q _ => ∃ (z k : Int) (c : Nat) (b : Bool), vs = [.int z, .int k, .str (sgn c), .bl b] ∧ c ∈ letters.cps.toList ∧ ∀ (v : V) (d : D) (H' : Hp), Same H H' → Dt H' v d → SgD d c → Q v H'
theorem atI_int {rs : List Int} {i : Nat} {r : Int} (h : rs[i]? = some r) : atI (rs.map V.int) ((i : Nat) : Int) = some (.int r) := by
  refine atI_nat ?_
  rw [List.getElem?_map, h]
  rfl
section
variable {P : Program} {w : World} {K : PySem.W.Frag} {mg : Str → Option Value} {base : Heap}
theorem o__law_letters (T : Txt K mg) : OkF P w K mg base CX0 1 "_law_letters" ["_law_row", "_law_many"] (spLettersC K) := by
  refine T.f__law_letters.ok c__law_letters (fun vs H Q E h => ?_) (fun f cdv A outer s H vs Q E hr h => ?_)
  · obtain ⟨p, rs, m, sh, j, rfl, _⟩ := h
    rfl
  · obtain ⟨p, rs, m, sh, j, rfl, hp, h2, h3, sh0, sh1, j0, j1, m6, k⟩ := h
    refine ⟨_, (pss_cons (ps_set (i := 2) c__law_letters.nd rfl (Or.inr rfl) (pe_ix (ix_list_k K) (pe_lst (pa_cons pe_int (pa_cons pe_int (pa_cons pe_int (pa_cons pe_int (pa_cons pe_int (pa_cons pe_int pa_nil))))))) (pe_ix (ix_list_k K) (pv 0) pe_int (fun _ _ => rfl)) (fun _ _ => rfl)))
(pss_one (ps_ret (pe_lc (own := [("_law_k", 3)]) (g := gName 3) (tt := tYes) (by rfl) c__law_letters.nd (pi_range1 (by rfl) T.b_range (pa_cons (pv 1) pa_nil)) (blkOk_by (own := [("_law_k", 3)]) (N := n__law_letters) (sc := defScope s__law_letters) (by decide +kernel)) (fun _ _ _ _ _ => (pg_name (i := 3) c__law_letters.nd rfl (Or.inl rfl))) (fun _ _ _ _ _ => pts_nil) (fun _ _ _ _ _ => (pe_ix ix_str pe_str (pe_op op_mod (pe_op op_add (pe_ix (ix_list_k K) (pv 0) pe_int (fun _ _ => rfl)) (pe_op op_mul (pv 2) (pv 3))) pe_int) (fun _ _ => rfl))))))), ?_⟩
    refine ⟨(by show 6 ≤ sizeLine; decide), fun p0 hp0 => ?_⟩
    have u0 := Same.upd (o := .lst [V.int 1, V.int 3, V.int 5, V.int 7, V.int 9, V.int 11]) hp0
    obtain ⟨v, hv, hm, _⟩ := at_lt (xs := [V.int 1, V.int 3, V.int 5, V.int 7, V.int 9, V.int 11]) j0 (by exact j1)
    obtain ⟨st, rfl, hst⟩ := stepC hm
    refine ⟨_, rfl, _, _, _, _, rfl, rfl, u0.seq hp, atI_int h3, _, _, _, _, rfl, rfl, SqL.of upd_same, hv, ?_⟩
    generalize upd H p0 (.lst [V.int 1, V.int 3, V.int 5, V.int 7, V.int 9, V.int 11]) = H1 at u0 ⊢
    refine ⟨_, rfl, _, rfl, by omega, by omega, fun pL hL => lc_range (lo := 0) (n := m) (fun i H' => Same H1 H' ∧ H' pL = some (.lst (((cds sh st i).map sgn).map V.str))) ⟨Same.upd hL, upd_same⟩ ?_ ?_⟩
    · rintro i H' hi ⟨s4, e4⟩
      rw [Int.zero_add]
      have e26 := code_mem sh st i
      have i0 : 0 ≤ (sh + st * (i : Int)) % 26 := Int.emod_nonneg _ (by decide)
      have hat : atI letters.cps.toList ((sh + st * (i : Int)) % 26) = some (codeAt sh st i) := by
        have := atI_nat e26
        rw [Int.toNat_of_nonneg i0] at this
        exact this
      refine ⟨rfl, _, rfl, _, _, _, _, rfl, rfl, (u0.trans s4).seq hp, atI_int h2, _, rfl, _, rfl, _, _, rfl, rfl, .inl ⟨by omega, by omega⟩, _, _, rfl, rfl, _, _, rfl, rfl, (by show (0 : Int) < 26; decide), letters, _, _, rfl, rfl, by decide +kernel, hat, _, e4, ?_, ?_, ?_⟩
      · rw [List.length_map, List.length_map, cds_len]
        exact small1000 (by omega)
      · intro b o hb
        rw [upd_ne (ne_of_none hb hL)]
        exact s4 _ _ hb
      · rw [upd_same, cds_more, List.map_append, List.map_append]
        rfl
    rintro H4 ⟨s4, e4⟩
    exact k pL st H4 (same_none u0 hL) (u0.trans s4) e4 hst
theorem o__law_sign (T : Txt K mg) : OkF P w K mg base CX0 2 "_law_sign" ["_law_cell_here", "_law_k", "_law_letter", "_law_dear"] spSignC := by
  have o__law_draws := o__law_draws (P := P) (w := w) (base := base) T
  have o__law_low := o__law_low (P := P) (w := w) (base := base) T
  refine T.f__law_sign.ok c__law_sign (fun vs H Q E h => ?_) (fun f cdv A outer s H vs Q E hr h => ?_)
  · obtain ⟨z, k, c, b, rfl, _⟩ := h
    rfl
  · obtain ⟨z, k, c, b, rfl, hc, q⟩ := h
    refine ⟨_, (pss_cons (ps_set (i := 4) c__law_sign.nd rfl (Or.inl rfl) (pe_c o__law_draws hr (pa_cons (pv 0) (pa_cons (pe_op op_add pe_int (pv 1)) (pa_cons (pe_lst (pa_cons pe_int (pa_cons pe_int (pa_cons pe_int (pa_cons pe_int (pa_cons pe_int (pa_cons pe_int (pa_cons pe_int pa_nil)))))))) pa_nil)))))
(pss_cons (ps_set (i := 5) c__law_sign.nd rfl (Or.inl rfl) (pe_c o__law_low hr (pa_cons (pe_op op_add pe_int (pe_ix (ix_list_k K) (pv 4) pe_int (fun _ _ => rfl))) (pa_cons (pe_op op_add pe_int (pe_ix (ix_list_k K) (pv 4) pe_int (fun _ _ => rfl))) pa_nil))))
(C8.pss_cut (ps_if (pt_val (pv 3))
(pss_one (ps_set (i := 5) c__law_sign.nd rfl (Or.inl rfl) (pe_c o__law_low hr (pa_cons (pe_op op_add pe_int (pe_ix (ix_list_k K) (pv 4) pe_int (fun _ _ => rfl))) (pa_cons (pe_op op_add pe_int (pe_ix (ix_list_k K) (pv 4) pe_int (fun _ _ => rfl))) pa_nil)))))
pss_nil)
(pss_cons (ps_set (i := 6) c__law_sign.nd rfl (Or.inl rfl) (pe_c o__law_low hr (pa_cons (pe_op op_add pe_int (pe_ix (ix_list_k K) (pv 4) pe_int (fun _ _ => rfl))) (pa_cons (pe_op op_add pe_int (pe_ix (ix_list_k K) (pv 4) pe_int (fun _ _ => rfl))) pa_nil))))
(pss_one (ps_ret (pe_tup (pa_cons (pv 2) (pa_cons (pv 5) (pa_cons (pe_ix (ix_list_k K) (pe_lst (pa_cons (pv 5) (pa_cons pe_non (pa_cons (pv 6) (pa_cons (pe_tup (pa_cons (pe_op op_add pe_int (pe_ix (ix_list_k K) (pv 4) pe_int (fun _ _ => rfl))) (pa_cons pe_int pa_nil))) (pa_cons (pv 5) (pa_cons (pv 5) pa_nil))))))) (pe_ix (ix_list_k K) (pv 4) pe_int (fun _ _ => rfl)) (fun _ _ => rfl)) pa_nil)))))))))), ?_⟩
    refine ⟨_, rfl, _, rfl, _, _, rfl, rfl, (by show 7 ≤ sizeLine; decide), fun p0 hp0 => ?_⟩
    have u0 := Same.upd (o := .lst [V.int 5, V.int 3, V.int 6, V.int 7, V.int 4, V.int 999999999, V.int 999999999]) hp0
    refine ⟨z, _, p0, [5, 3, 6, 7, 4, 999999999, 999999999], rfl, SqL.of upd_same, by decide, by decide, fun p1 rs H1 hp1 s1 e1 dr => ?_⟩
    have s01 := u0.trans s1
    obtain ⟨r0, h0, a0, b0⟩ := dr.at (i := 0) (m := 5) rfl
    obtain ⟨r1, h1, a1, b1⟩ := dr.at (i := 1) (m := 3) rfl
    obtain ⟨r2, h2, a2, b2⟩ := dr.at (i := 2) (m := 6) rfl
    obtain ⟨r3, h3, a3, b3⟩ := dr.at (i := 3) (m := 7) rfl
    obtain ⟨r4, h4, a4, b4⟩ := dr.at (i := 4) (m := 4) rfl
    obtain ⟨r5, h5, a5, b5⟩ := dr.at (i := 5) (m := 999999999) rfl
    obtain ⟨r6, h6, a6, b6⟩ := dr.at (i := 6) (m := 999999999) rfl
    have at_ : ∀ {H' : Hp}, Same H1 H' → SqL K H' p1 (rs.map V.int) := fun s' => SqL.of (s' _ _ e1)
    have pr : ∀ {t b : Int}, 0 < t → 0 < b → t ≤ 1000000000 → b ≤ 1000000000 → PrOk (lowT t b) (lowB t b) := fun {t b} ht hb t9 b9 => by
      obtain ⟨g1, g2, g3, g4, g5⟩ := low_pos ht hb
      exact ⟨g1, g2, by omega, by omega, g5⟩
    have lg : ∀ {b : Int}, 0 < b → b ≤ 1000000000 → b.natAbs.log2 < 9000 := fun {b} h h9 => log_le 1000000000 (by omega)
    refine ⟨_, rfl, _, _, _, _, rfl, rfl, at_ (Same.refl _), atI_int h0, _, _, rfl, rfl, _, rfl, _, _, _, _, rfl, rfl, at_ (Same.refl _), atI_int h1, _, _, rfl, rfl, 1 + r0, 1 + r1, rfl, by omega, lg (by omega) (by omega), fun p2 H2 hp2 s2 e2 => ?_⟩
    refine ⟨fun σ' H' => Same H1 H' ∧ ∃ (pp : Addr) (t b' : Int), σ' = [some (.int z), some (.int k), some (.str (sgn c)), some (.bl b), some (.ref p1), some (.ref pp), none] ∧ H' pp = some (.tup [.int t, .int b']) ∧ PrOk t b', ?_, ?_⟩
    · refine ⟨_, rfl, _, rfl, itb (fun _ => ?_) fun _ => ?_⟩
      · refine ⟨_, rfl, _, _, _, _, rfl, rfl, at_ s2, atI_int h5, _, _, rfl, rfl, _, rfl, _, _, _, _, rfl, rfl, at_ s2, atI_int h6, _, _, rfl, rfl, 1 + r5, 1 + r6, rfl, by omega, lg (by omega) (by omega), fun p3 H3 hp3 s3 e3 => ?_⟩
        exact ⟨s2.trans s3, p3, _, _, rfl, e3, pr (by omega) (by omega) (by omega) (by omega)⟩
      · exact ⟨s2, p2, _, _, rfl, e2, pr (by omega) (by omega) (by omega) (by omega)⟩
    rintro σ' H3 ⟨s3, pp, t, b', rfl, e3, pr3⟩
    refine ⟨_, rfl, _, _, _, _, rfl, rfl, at_ s3, atI_int h3, _, _, rfl, rfl, _, rfl, _, _, _, _, rfl, rfl, at_ s3, atI_int h4, _, _, rfl, rfl, 1 + r3, 1 + r4, rfl, by omega, lg (by omega) (by omega), fun p4 H4 hp4 s4 e4 => ?_⟩
    have pr4 := pr (t := 1 + r3) (b := 1 + r4) (by omega) (by omega) (by omega) (by omega)
    have s14 := s3.trans s4
    have e3' := s4 _ _ e3
    refine ⟨_, rfl, _, rfl, _, rfl, _, rfl, _, rfl, _, _, _, _, rfl, rfl, at_ s14, atI_int h3, _, _, rfl, rfl, (by show 2 ≤ sizeLine; decide), fun p5 hp5 => ?_⟩
    have u5 := Same.upd (o := .tup [V.int (9 + r3), V.int 1]) hp5
    have e5 : (upd H4 p5 (.tup [V.int (9 + r3), V.int 1])) p5 = some (.tup [V.int (9 + r3), V.int 1]) := upd_same
    generalize upd H4 p5 (.tup [V.int (9 + r3), V.int 1]) = H5 at u5 e5 ⊢
    refine ⟨_, rfl, _, rfl, (by show 6 ≤ sizeLine; decide), fun p6 hp6 => ?_⟩
    have u6 := Same.upd (o := .lst [V.ref pp, V.non, V.ref p4, V.ref p5, V.ref pp, V.ref pp]) hp6
    have e6 : (upd H5 p6 (.lst [V.ref pp, V.non, V.ref p4, V.ref p5, V.ref pp, V.ref pp])) p6 = some (.lst [V.ref pp, V.non, V.ref p4, V.ref p5, V.ref pp, V.ref pp]) := upd_same
    generalize upd H5 p6 (.lst [V.ref pp, V.non, V.ref p4, V.ref p5, V.ref pp, V.ref pp]) = H6 at u6 e6 ⊢
    have s46 := u5.trans u6
    obtain ⟨la, hla, hlm, _⟩ := at_lt (xs := [V.ref pp, V.non, V.ref p4, V.ref p5, V.ref pp, V.ref pp]) a2 (by exact b2)
    have dp : Dt H6 (.ref pp) (.tup [.int t, .int b']) := .tup (s46 _ _ e3') (.cons (.int _) (.cons (.int _) .nil))
    obtain ⟨ld, dl, ll⟩ : ∃ ld, Dt H6 la ld ∧ LastD ld := by
      simp only [List.mem_cons, List.not_mem_nil, or_false] at hlm
      rcases hlm with rfl | rfl | rfl | rfl | rfl | rfl
      · exact ⟨_, dp, pr3⟩
      · exact ⟨.non, .non, trivial⟩
      · exact ⟨_, .tup (s46 _ _ e4) (.cons (.int _) (.cons (.int _) .nil)), pr4⟩
      · refine ⟨.tup [.int (9 + r3), .int 1], .tup (u6 _ _ e5) (.cons (.int _) (.cons (.int _) .nil)), ?_⟩
        show PrOk (9 + r3) 1
        exact ⟨by omega, by decide, by omega, by decide, by rw [Int.gcd_comm]; exact Int.gcd_one⟩
      · exact ⟨_, dp, pr3⟩
      · exact ⟨_, dp, pr3⟩
    refine ⟨_, rfl, _, _, _, _, rfl, rfl, at_ (s14.trans s46), atI_int h2, _, _, _, _, rfl, rfl, SqL.of e6, hla, (by show 3 ≤ sizeLine; decide), fun p7 hp7 => ?_⟩
    have u7 := Same.upd (o := .tup [V.str (sgn c), V.ref pp, la]) hp7
    refine q (.ref p7) (.tup [.str (sgn c), .tup [.int t, .int b'], ld]) _ (s01.trans (s14.trans (s46.trans u7))) (.tup upd_same (.cons (.str _) (.cons (dp.same u7) (.cons (dl.same u7) .nil)))) ⟨⟨t, b', ld, rfl, pr3, ll⟩, hc⟩
end
end Dear

namespace Dear
open PySem PySem.Spec PyProof.Rows L2
def bansC (n : Nat) : List Int := [3] ++ (List.replicate n [(6 : Int)]).flatten ++ [2]
theorem rep6_len {x : Int} (n : Nat) : (List.replicate n [x]).flatten.length = n := by
  induction n with
  | zero => rfl
  | succ n ih =>
    rw [List.replicate_succ, List.flatten_cons, List.length_append, ih]
    show 1 + n = n + 1
    omega
theorem bansC_len (n : Nat) : (bansC n).length = n + 2 := by
  unfold bansC
  rw [List.length_append, List.length_append, rep6_len]
  show 1 + n + 1 = n + 2
  omega
theorem bansC_pos (n : Nat) : ∀ m ∈ bansC n, 0 < m ∧ m ≤ 1000000000 := fun m hm => by
  unfold bansC at hm
  rcases List.mem_append.mp hm with hm | hm
  · rcases List.mem_append.mp hm with hm | hm
    · have : m = 3 := by simpa using hm
      subst this
      decide
    · obtain ⟨l, hl, hm⟩ := List.mem_flatten.mp hm
      have := List.eq_of_mem_replicate hl
      subst this
      have : m = 6 := by simpa using hm
      subst this
      decide
  · have : m = 2 := by simpa using hm
    subst this
    decide
theorem bansC_D (n : Nat) : ([D.int 3] ++ (List.replicate n [D.int 6]).flatten) ++ [D.int 2] = (bansC n).map D.int := by
  unfold bansC
  rw [List.map_append, List.map_append, List.map_flatten, List.map_replicate]
  rfl
theorem Drawn.at' {ss rs : List Int} (h : Drawn ss rs) {i : Nat} (e : i < ss.length) : ∃ r, rs[i]? = some r := ⟨_, List.getElem?_eq_getElem (by rw [h.len]; exact e)⟩
/-- so many pairs seen -/
structure PrsC (cs : List Nat) (m j : Nat) (zs : List Str) : Prop where
  po : PairsOf cs cs zs
  of : ∀ z ∈ zs, ∃ k < j, ∃ a b, cs[k / m]? = some a ∧ cs[k % m]? = some b ∧ z = sgn a ++ sgn b
  ln : zs.length ≤ j
theorem PrsC.more {cs : List Nat} {m j a b : Nat} {zs : List Str} (h : PrsC cs m j zs) (nd : cs.Nodup) (ha : cs[j / m]? = some a) (hb : cs[j % m]? = some b) : PrsC cs m (j + 1) (zs ++ [sgn a ++ sgn b]) := by
  refine ⟨pair_new h.po (List.mem_of_getElem? ha) (List.mem_of_getElem? hb) fun hm => ?_, fun z hz => ?_, by rw [List.length_append]; show _ + 1 ≤ _; have := h.ln; omega⟩
  · obtain ⟨k, hk, a', b', h1, h2, e⟩ := h.of _ hm
    obtain ⟨e1, e2⟩ := sgn2_inj e
    subst e1
    subst e2
    have i1 := nd_ix nd ha h1
    have i2 := nd_ix nd hb h2
    have d1 := Nat.div_add_mod j m
    have d2 := Nat.div_add_mod k m
    rw [i1, i2] at d1
    omega
  · rcases List.mem_append.mp hz with hz | hz
    · obtain ⟨k, hk, r⟩ := h.of z hz
      exact ⟨k, by omega, r⟩
    · have : z = sgn a ++ sgn b := by simpa using hz
      exact ⟨j, by omega, a, b, ha, hb, this⟩
theorem PrsC.skip {cs : List Nat} {m j : Nat} {zs : List Str} (h : PrsC cs m j zs) : PrsC cs m (j + 1) zs := ⟨h.po, fun z hz => by
  obtain ⟨k, hk, r⟩ := h.of z hz
  exact ⟨k, by omega, r⟩, by have := h.ln; omega⟩
theorem PairsOf.rev {cs : List Nat} {zs : List Str} (h : PairsOf cs cs zs) : PairsOf cs cs zs.reverse := ⟨(List.reverse_perm zs).nodup_iff.mpr h.nd, fun z hz => h.of z (List.mem_reverse.mp hz)⟩
def spTongueC (K : PySem.W.Frag) : Sp := fun vs H Q _ => ∃ (a : Addr) (ns : List Int) (ms ml : Int), vs = [.ref a, .int ms, .int ml] ∧ SqL K H a (ns.map V.int) ∧ 2 ≤ ms ∧ ms ≤ 6 ∧ 1 ≤ ml ∧ ml ≤ 8 ∧
  ∀ (v : V) (d : D) (ds : List D) (cs fs : List Nat) (zs : List Str) (i : Int) (H' : Hp), Same H H' → TgD d ds cs fs zs i → TgAt H H' v ds cs fs zs i → Q v H'
section
variable {P : Program} {w : World} {K : PySem.W.Frag} {mg : Str → Option Value} {base : Heap}
theorem o__law_tongue (T : Txt K mg) : OkF P w K mg base CX0 3 "_law_tongue" ["_law_script", "_law_most", "_law_longest"] (spTongueC K) := by
  have o__law_cell := o__law_cell (P := P) (w := w) (base := base) T
  have o__law_draws := o__law_draws (P := P) (w := w) (base := base) T
  have o__law_letters := o__law_letters (P := P) (w := w) (base := base) T
  have o__law_sign := o__law_sign (P := P) (w := w) (base := base) T
  refine T.f__law_tongue.ok c__law_tongue (fun vs H Q E h => ?_) (fun f cdv A outer s H vs Q E hr h => ?_)
  · obtain ⟨a, ns, ms, ml, rfl, _⟩ := h
    rfl
  · obtain ⟨a, ns, ms, ml, rfl, hS, ms2, ms6, ml1, ml8, q⟩ := h
    refine ⟨_, (pss_cons (ps_set (i := 3) c__law_tongue.nd rfl (Or.inl rfl) (pe_c o__law_draws hr (pa_cons (pe_c o__law_cell hr (pa_cons (pv 0) (pa_cons pe_int pa_nil))) (pa_cons pe_int (pa_cons (pe_lst (pa_cons (pe_op op_sub (pv 1) pe_int) (pa_cons (pv 2) (pa_cons pe_int (pa_cons pe_int (pa_cons pe_int pa_nil)))))) pa_nil)))))
(pss_cons (ps_set (i := 4) c__law_tongue.nd rfl (Or.inl rfl) (pe_op op_add pe_int (pe_ix (ix_list_k K) (pv 3) pe_int (fun _ _ => rfl))))
(pss_cons (ps_set (i := 5) c__law_tongue.nd rfl (Or.inl rfl) (pe_c o__law_letters hr (pa_cons (pv 3) (pa_cons (pv 4) pa_nil))))
(pss_cons (ps_set (i := 6) c__law_tongue.nd rfl (Or.inl rfl) (pe_lst pa_nil))
(pss_cons (ps_for PassesOwn.never rfl (pi_enum (by rfl) T.b_enumerate (pa_cons (pv 5) pa_nil)) (pg_tup_k K (n := 2) rfl (pgs_cons (pg_name (i := 7) c__law_tongue.nd rfl (Or.inl rfl)) (pgs_cons (pg_name (i := 8) c__law_tongue.nd rfl (Or.inl rfl)) pgs_nil)))
(pss_one (ps_expr (pe_bm PySem.F.plainAttrs_list PySem.F.slot_list_append PySem.F.type_list_append mt_append (pv 6) (pa_cons (pe_c o__law_sign hr (pa_cons (pe_c o__law_cell hr (pa_cons (pv 0) (pa_cons (pe_op op_add pe_int (pv 7)) pa_nil))) (pa_cons (pv 7) (pa_cons (pv 8) (pa_cons (pe_cmpR op_eq (pe_ix (ix_list_k K) (pv 3) pe_int (fun _ _ => rfl)) pe_int (nomark _)) pa_nil))))) pa_nil)))))
(pss_cons (ps_set (i := 9) c__law_tongue.nd rfl (Or.inr rfl) (pe_c o__law_draws hr (pa_cons (pe_c o__law_cell hr (pa_cons (pv 0) (pa_cons pe_int pa_nil))) (pa_cons pe_int (pa_cons (pe_op op_cat (pe_op op_cat (pe_lst (pa_cons pe_int pa_nil)) (pe_op op_rep (pe_lst (pa_cons pe_int pa_nil)) (pe_op op_add (pv 4) (pe_op op_mul (pv 4) (pv 4))))) (pe_lst (pa_cons pe_int pa_nil))) pa_nil)))))
(pss_cons (ps_if (pt_cmpR op_eq (pe_ix (ix_list_k K) (pv 9) pe_int (fun _ _ => rfl)) pe_int (nomark _))
(pss_one (ps_ret (pe_tup (pa_cons (pv 6) (pa_cons (pe_lst pa_nil) (pa_cons (pe_lst pa_nil) (pa_cons (pe_op op_add pe_int (pe_ix (ix_list_k K) (pv 3) pe_int (fun _ _ => rfl))) pa_nil)))))))
pss_nil)
(pss_cons (ps_setLc (i := 10) (own := [("_law_k", 7), ("_law_letter", 8)]) (by rfl) c__law_tongue.nd rfl rfl (sw_true rfl rfl rfl (by decide +kernel)) (pi_enum (by rfl) T.b_enumerate (pa_cons (pv 5) pa_nil)) (blkOk_by (own := [("_law_k", 7), ("_law_letter", 8)]) (N := n__law_tongue) (sc := defScope s__law_tongue) (by decide +kernel)) (fun _ _ _ _ _ => (pg_tup_k K (n := 2) rfl (pgs_cons (pg_name (i := 7) c__law_tongue.nd rfl (Or.inl rfl)) (pgs_cons (pg_name (i := 8) c__law_tongue.nd rfl (Or.inl rfl)) pgs_nil)))) (fun _ _ _ _ _ => (pts_one (pt_cmpR op_eq (pe_ix (ix_list_k K) (pv 9) (pe_op op_add pe_int (pv 7)) (fun _ _ => rfl)) pe_int (nomark _)))) (fun _ _ _ _ _ => (pv 8)))
(pss_cons (ps_set (i := 11) c__law_tongue.nd rfl (Or.inl rfl) (pe_lst pa_nil))
(pss_cons (ps_for PassesOwn.never rfl (pi_range1 (by rfl) T.b_range (pa_cons (pe_op op_mul (pv 4) (pv 4)) pa_nil)) (pg_name (i := 7) c__law_tongue.nd rfl (Or.inl rfl))
(pss_one (ps_if (pt_cmpR op_eq (pe_ix (ix_list_k K) (pv 9) (pe_op op_add (pe_op op_add pe_int (pv 4)) (pv 7)) (fun _ _ => rfl)) pe_int (nomark _))
(pss_one (ps_expr (pe_bm PySem.F.plainAttrs_list PySem.F.slot_list_append PySem.F.type_list_append mt_append (pv 11) (pa_cons (pe_op op_add_str (pe_ix (ix_list_k K) (pv 5) (pe_op op_fdivW (pv 7) (pv 4)) (fun _ _ => rfl)) (pe_ix (ix_list_k K) (pv 5) (pe_op op_mod (pv 7) (pv 4)) (fun _ _ => rfl))) pa_nil))))
pss_nil)))
(pss_cons (ps_if (pt_cmpR op_eq (pe_ix (ix_list_k K) (pv 9) (pe_un un_neg pe_int) (fun _ _ => rfl)) pe_int (nomark _))
(pss_one (ps_ret (pe_tup (pa_cons (pv 6) (pa_cons (pe_revL_k K (pv 10)) (pa_cons (pe_revL_k K (pv 11)) (pa_cons (pe_op op_add pe_int (pe_ix (ix_list_k K) (pv 3) pe_int (fun _ _ => rfl))) pa_nil)))))))
pss_nil)
(pss_one (ps_ret (pe_tup (pa_cons (pv 6) (pa_cons (pv 10) (pa_cons (pv 11) (pa_cons (pe_op op_add pe_int (pe_ix (ix_list_k K) (pv 3) pe_int (fun _ _ => rfl))) pa_nil)))))))))))))))))), ?_⟩
    refine ⟨_, rfl, a, ns, 0, rfl, hS, by decide, fun z => ?_⟩
    refine ⟨_, rfl, _, _, rfl, rfl, _, rfl, (by show 5 ≤ sizeLine; decide), fun p0 hp0 => ?_⟩
    have u0 := Same.upd (o := .lst [V.int (ms - 1), V.int ml, V.int 26, V.int 6, V.int 4]) hp0
    refine ⟨z, 0, p0, [ms - 1, ml, 26, 6, 4], rfl, SqL.of upd_same, by show 5 ≤ 100; decide, ?_, fun p1 rs H1 hp1 s1 e1 dr => ?_⟩
    · intro m hm
      simp only [List.mem_cons, List.not_mem_nil, or_false] at hm
      rcases hm with rfl | rfl | rfl | rfl | rfl <;> omega
    have s01 := u0.trans s1
    obtain ⟨r0, h0, a0, b0⟩ := dr.at (i := 0) (m := ms - 1) rfl
    obtain ⟨r1, h1, a1, b1⟩ := dr.at (i := 1) (m := ml) rfl
    obtain ⟨r2, h2, a2, b2⟩ := dr.at (i := 2) (m := 26) rfl
    obtain ⟨r3, h3, a3, b3⟩ := dr.at (i := 3) (m := 6) rfl
    obtain ⟨r4, h4, a4, b4⟩ := dr.at (i := 4) (m := 4) rfl
    have at_ : ∀ {H' : Hp}, Same H1 H' → SqL K H' p1 (rs.map V.int) := fun s' => SqL.of (s' _ _ e1)
    refine ⟨_, rfl, _, _, _, _, rfl, rfl, at_ (Same.refl _), atI_int h0, _, _, rfl, rfl, ?_⟩
    obtain ⟨m, em⟩ := Int.eq_ofNat_of_zero_le (show 0 ≤ 2 + r0 by omega)
    dsimp only
    rw [em]
    have m2 : 2 ≤ m := by omega
    have m6 : m ≤ 6 := by omega
    have mm : m * m ≤ 36 := Nat.mul_le_mul m6 m6
    refine ⟨_, rfl, _, rfl, p1, rs, m, r2, r3, rfl, at_ (Same.refl _), h2, h3, a2, b2, a3, b3, m6, fun pL st H2 hL s2 eL hst => ?_⟩
    have cl := cds_len r2 st m
    have nd : (cds r2 st m).Nodup := cds_nodupC hst m6
    have lL : (((cds r2 st m).map sgn).map V.str).length = m := by rw [List.length_map, List.length_map, cl]
    have hLH := same_none s01 hL
    have s02 := s01.trans s2
    -- signs
    refine ⟨(by show 0 ≤ sizeLine; decide), fun pS hpS => ?_⟩
    have u3 := Same.upd (o := .lst []) hpS
    have e3 : (upd H2 pS (.lst [])) pS = some (.lst []) := upd_same
    generalize upd H2 pS (.lst []) = H3 at u3 e3 ⊢
    have s03 := s02.trans u3
    have s13 := s2.trans u3
    have hSH := same_none s02 hpS
    have nLS : pL ≠ pS := ne_of_none eL hpS
    refine ⟨_, rfl, pL, _, rfl, SqL.of (u3 _ _ eL), for_it walk_enum (fun i σ H' => Same H2 H' ∧ ∃ (xs : List V) (ds : List D) (v7 v8 : Option V), σ = [some (.ref a), some (.int ms), some (.int ml), some (.ref p1), some (.int (m : Nat)), some (.ref pL), some (.ref pS), v7, v8, none, none, none] ∧ H' pS = some (.lst xs) ∧ DtAll H' xs ds ∧ SgAll ds (cds r2 st i) ∧ xs.length = i)
      ⟨u3, [], [], _, _, rfl, e3, .nil, .nil, rfl⟩ (fun i σ H' _ h => SqL.of (h.1 _ _ eL)) ?_ ?_⟩
    · rintro i y σ H4 H4' hi ⟨s4, xs, ds, v7, v8, rfl, hx, hd, sg, xl⟩ ⟨tp, y1, y2, rfl, htp, rfl, hy1, hy2⟩
      injection hy1 with hy1
      subst hy1
      obtain ⟨im, rfl⟩ := cds_get hy2
      have u5 := Same.upd (o := .tup [V.int (i : Nat), V.str (sgn (codeAt r2 st i))]) htp
      have e5 : (upd H4 tp (.tup [V.int (i : Nat), V.str (sgn (codeAt r2 st i))])) tp = some (.tup [V.int (i : Nat), V.str (sgn (codeAt r2 st i))]) := upd_same
      generalize upd H4 tp (.tup [V.int (i : Nat), V.str (sgn (codeAt r2 st i))]) = H5 at u5 e5 ⊢
      have s25 := s4.trans u5
      have s05 := s02.trans s25
      have hx5 := u5 _ _ hx
      refine ⟨tp, _, rfl, SqT.of e5, rfl, _, _, rfl, _, _, rfl, rfl, ?_⟩
      refine ⟨_, rfl, .inl ⟨rfl, _, SqL.of hx5⟩, _, rfl, _, rfl, _, _, rfl, rfl, a, ns, _, rfl, s05.seq hS, by omega, fun z2 => ?_⟩
      refine ⟨_, rfl, _, rfl, _, rfl, _, _, _, _, rfl, rfl, at_ (s2.trans s25), atI_int h4, rfl, z2, _, _, _, rfl, List.mem_of_getElem? (code_mem r2 st i), fun v d H6 s6 dv sd => ?_⟩
      have hx6 := s6 _ _ hx5
      have hd6 := hd.same (u5.trans s6)
      refine ⟨pS, _, _, rfl, rfl, hx6, small1000 (by omega), ?_⟩
      have tp9 := TP.upd (o := .lst (xs ++ [v])) hx6
      refine ⟨fun b o hb => ?_, xs ++ [v], ds ++ [d], _, _, rfl, upd_same, ?_, ?_, by rw [List.length_append, xl]; rfl⟩
      · rw [upd_ne (ne_of_none hb hpS)]
        exact s6 _ _ (s25 _ _ hb)
      · exact (hd6.tp tp9 sg.facts.2.2.1).app (.cons (dv.tp tp9 sd.facts.2.2.1) .nil)
      · rw [cds_more]
        exact sg.app sd
    rintro σ H4 ⟨s4, xs, ds, v7, v8, rfl, hx, hd, sg, xl⟩
    rw [lL] at sg
    have s04 := s02.trans s4
    have eL4 := s4 _ _ eL
    -- bans
    refine ⟨_, rfl, a, ns, 7, rfl, s04.seq hS, by decide, fun z3 => ?_⟩
    refine s_cons (MkE.go (d := .lst ((bansC (m + m * m)).map D.int)) (mke_eq (mke_cat (mke_cat (mke_lst (mkea_cons (mke_c fun _ => .int _) mkea_nil)) (mke_rep (n := m + m * m) (mke_lst (mkea_cons (mke_c fun _ => .int _) mkea_nil)) (mke_eq (mke_add (mke_var rfl (.int _)) (mke_mul (mke_var rfl (.int _)) (mke_var rfl (.int _)) (.inl ⟨by omega, by omega⟩))) (by congr 1)) (by omega) (by show 1 * _ ≤ 1000; omega)) ?_) (mke_lst (mkea_cons (mke_c fun _ => .int _) mkea_nil)) ?_) (by rw [bansC_D])) fun v5 H5 s5 d5 => ?_)
    · have := congrArg List.length (bansC_D (m + m * m))
      rw [List.length_append, List.length_map, bansC_len] at this
      have e : ([D.int 3] ++ (List.replicate (m + m * m) [D.int 6]).flatten).length + 1 = m + m * m + 2 := this
      rw [List.length_append] at e
      omega
    · have := congrArg List.length (bansC_D (m + m * m))
      rw [List.length_append, List.length_map, bansC_len] at this
      omega
    obtain ⟨p5, xs5, rfl, hp5, hall5⟩ := d5.lstAt
    have ei := hall5.ints'
    subst ei
    refine ⟨_, _, p5, _, rfl, SqL.of hp5, by rw [bansC_len]; omega, bansC_pos _, fun p6 bs H6 hp6 s6 e6 dr6 => ?_⟩
    have s46 := s5.trans s6
    have s06 := s04.trans s46
    have lb : bs.length = m + m * m + 2 := by rw [dr6.len, bansC_len]
    obtain ⟨c0, hc0⟩ := dr6.at' (i := 0) (by rw [bansC_len]; omega)
    have at6 : ∀ {H' : Hp}, Same H6 H' → SqL K H' p6 (bs.map V.int) := fun s' => SqL.of (s' _ _ e6)
    have i1 : 1 ≤ 1 + r1 := by omega
    have i8 : 1 + r1 ≤ 8 := by omega
    have sgl : SgAll ds (cds r2 st m) := sg
    have l2 : 2 ≤ (cds r2 st m).length := by rw [cl]; exact m2
    have l6 : (cds r2 st m).length ≤ 6 := by rw [cl]; exact m6
    have s16 : Same H1 H6 := s2.trans (s4.trans s46)
    refine ⟨_, rfl, _, _, _, _, rfl, rfl, at6 (Same.refl _), atI_int hc0, rfl, _, rfl, itd (fun c => ?_) fun c => ?_⟩
    · refine ⟨_, rfl, (by show 0 ≤ sizeLine; decide), fun q1 hq1 => ⟨(by show 0 ≤ sizeLine; decide), fun q2 hq2 => ?_⟩⟩
      have w1 := Same.upd (o := .lst []) hq1
      have g1 : (upd H6 q1 (.lst [])) q1 = some (.lst []) := upd_same
      generalize upd H6 q1 (.lst []) = H7 at w1 g1 hq2 ⊢
      have w2 := Same.upd (o := .lst []) hq2
      have g2 : (upd H7 q2 (.lst [])) q2 = some (.lst []) := upd_same
      generalize upd H7 q2 (.lst []) = H8 at w2 g2 ⊢
      have s68 := w1.trans w2
      refine ⟨_, rfl, _, _, _, _, rfl, rfl, at_ (s16.trans s68), atI_int h1, _, _, rfl, rfl, (by show 4 ≤ sizeLine; decide), fun q3 hq3 => ?_⟩
      have w3 := Same.upd (o := .tup [V.ref pS, .ref q1, .ref q2, .int (1 + r1)]) hq3
      have s69 := s68.trans w3
      refine q (.ref q3) _ ds (cds r2 st m) [] [] (1 + r1) _ (s06.trans s69) ⟨rfl, sgl, nd, l2, l6, List.nodup_nil, (fun _ h => nomatch h), ⟨List.nodup_nil, fun _ h => nomatch h⟩, i1, i8⟩ ⟨q3, pS, q1, q2, xs, rfl, upd_same, s69 _ _ (s46 _ _ hx), hd.same (s46.trans s69), w3 _ _ (w2 _ _ g1), w3 _ _ g2, same_none (s06.trans s68) hq3, hSH, same_none s06 hq1, same_none (s06.trans w1) hq2, ne_of_none (s46 _ _ hx) hq1, ne_of_none (w1 _ _ (s46 _ _ hx)) hq2, ne_of_none g1 hq2⟩
    -- firsts
    have eL6 := s46 _ _ eL4
    refine ⟨_, rfl, pL, _, rfl, SqL.of eL6, fun pF hF => lc_it walk_enum (fun i H' => Same H6 H' ∧ ∃ fs : List Nat, H' pF = some (.lst ((fs.map sgn).map V.str)) ∧ fs.Sublist (cds r2 st i)) ⟨Same.upd hF, [], upd_same, List.nil_sublist _⟩ (fun i H' _ h => SqL.of (h.1 _ _ eL6)) ?_ ?_⟩
    · rintro i y H7 H7' hi ⟨s7, fs, e7, sb⟩ ⟨tp, y1, y2, rfl, htp, rfl, hy1, hy2⟩
      injection hy1 with hy1
      subst hy1
      obtain ⟨im, rfl⟩ := cds_get hy2
      have u8 := Same.upd (o := .tup [V.int (i : Nat), V.str (sgn (codeAt r2 st i))]) htp
      have e8 : (upd H7 tp (.tup [V.int (i : Nat), V.str (sgn (codeAt r2 st i))])) tp = some (.tup [V.int (i : Nat), V.str (sgn (codeAt r2 st i))]) := upd_same
      generalize upd H7 tp (.tup [V.int (i : Nat), V.str (sgn (codeAt r2 st i))]) = H8 at u8 e8 ⊢
      have s68 := s7.trans u8
      obtain ⟨ci, hci⟩ := dr6.at' (i := 1 + i) (by rw [bansC_len]; omega)
      have hci' := atI_int hci
      refine ⟨tp, _, rfl, SqT.of e8, rfl, _, _, rfl, _, _, rfl, rfl, rfl, _, rfl, _, rfl, _, _, rfl, rfl, _, _, _, _, rfl, rfl, at6 s68, (by rw [show (1 + ((i : Nat) : Int)) = ((1 + i : Nat) : Int) by omega]; exact hci'), rfl, _, rfl, itd (fun _ => ?_) fun _ => ?_⟩
      · have e8' := u8 _ _ e7
        have fl : fs.length ≤ i := by
          have := sb.length_le
          rw [cds_len] at this
          exact this
        refine ⟨_, rfl, _, e8', (by rw [List.length_map, List.length_map]; exact small1000 (by omega)), ?_, fs ++ [codeAt r2 st i], ?_, ?_⟩
        · intro b o hb
          rw [upd_ne (ne_of_none hb hF)]
          exact s68 _ _ hb
        · rw [upd_same, List.map_append, List.map_append]
          rfl
        · rw [cds_more]
          exact sb.append (List.Sublist.refl _)
      · exact ⟨s68, fs, u8 _ _ e7, by rw [cds_more]; exact sb.trans (List.sublist_append_left _ _)⟩
    rintro H7 ⟨s7, fs, e7, sb⟩
    rw [lL] at sb
    have fn : fs.Nodup := sb.nodup nd
    have fo : ∀ c ∈ fs, c ∈ cds r2 st m := fun c hc => sb.subset hc
    have s07 := s06.trans s7
    -- pairs
    refine ⟨(by show 0 ≤ sizeLine; decide), fun pP hP => ?_⟩
    have uP := Same.upd (o := .lst []) hP
    have eP : (upd H7 pP (.lst [])) pP = some (.lst []) := upd_same
    generalize upd H7 pP (.lst []) = H8 at uP eP ⊢
    have s78 := uP
    have emm : (m : Int) * (m : Int) = ((m * m : Nat) : Int) := (Int.natCast_mul m m).symm
    have hP6 : ∀ b o, H6 b = some o → b ≠ pP := fun b o hb => ne_of_none (s7 _ _ hb) hP
    refine ⟨_, rfl, _, rfl, _, _, rfl, rfl, .inl ⟨by omega, by omega⟩, _, rfl, (by show -(2 ^ 62 : Int) ≤ (m : Int) * (m : Int); rw [emm]; omega), (by show (m : Int) * (m : Int) < (2 ^ 62 : Int); rw [emm]; omega), for_range (lo := 0) (n := ((m : Int) * (m : Int)).toNat) (fun j σ H' => Same H7 H' ∧ ∃ (zs : List Str) (v7 v8 : Option V), σ = [some (.ref a), some (.int ms), some (.int ml), some (.ref p1), some (.int (m : Nat)), some (.ref pL), some (.ref pS), v7, v8, some (.ref p6), some (.ref pF), some (.ref pP)] ∧ H' pP = some (.lst (zs.map V.str)) ∧ PrsC (cds r2 st m) m j zs)
      ⟨uP, [], _, _, rfl, eP, ⟨⟨List.nodup_nil, fun _ h => nomatch h⟩, (fun _ h => nomatch h), Nat.zero_le _⟩⟩ ?_ ?_⟩
    · rintro j σ H9 hj ⟨s9, zs, v7, v8, rfl, e9, pc⟩
      rw [Int.zero_add]
      rw [emm, Int.toNat_natCast] at hj
      have s69 := s7.trans s9
      obtain ⟨cj, hcj⟩ := dr6.at' (i := 1 + m + j) (by rw [bansC_len]; omega)
      have hcj' := atI_int hcj
      have m0 : 0 < m := by omega
      refine ⟨_, rfl, _, rfl, _, _, rfl, rfl, _, rfl, _, _, rfl, rfl, _, _, _, _, rfl, rfl, at6 s69, (by rw [show (1 + ((m : Nat) : Int) + ((j : Nat) : Int)) = ((1 + m + j : Nat) : Int) by omega]; exact hcj'), rfl, _, rfl, itd (fun _ => ?_) fun _ => ⟨s9, zs, _, _, rfl, e9, pc.skip⟩⟩
      have q1 : j / m < m := (Nat.div_lt_iff_lt_mul m0).mpr hj
      have q2 : j % m < m := Nat.mod_lt _ m0
      have gc : ∀ {k : Nat}, k < m → (cds r2 st m)[k]? = some (codeAt r2 st k) := fun {k} hk => by
        unfold cds
        rw [List.getElem?_map, List.getElem?_range hk]
        rfl
      have gv : ∀ {k : Nat}, k < m → atI (((cds r2 st m).map sgn).map V.str) ((k : Nat) : Int) = some (.str (sgn (codeAt r2 st k))) := fun {k} hk => atI_nat (by
        rw [List.getElem?_map, List.getElem?_map, gc hk]
        rfl)
      have eL9 := s69 _ _ eL6
      refine ⟨_, rfl, .inl ⟨rfl, _, SqL.of e9⟩, _, rfl, _, rfl, _, rfl, _, _, rfl, rfl, ⟨by omega, log_le 6 (by omega)⟩, _, _, _, _, rfl, rfl, SqL.of eL9, (by rw [show (((j : Nat) : Int) / ((m : Nat) : Int)) = ((j / m : Nat) : Int) from (Int.natCast_ediv j m).symm]; exact gv q1), ?_⟩
      refine ⟨_, rfl, _, rfl, _, rfl, _, _, rfl, rfl, (by show (0 : Int) < (m : Int); omega), _, _, _, _, rfl, rfl, SqL.of eL9, (by rw [show (((j : Nat) : Int) % ((m : Nat) : Int)) = ((j % m : Nat) : Int) from (Int.natCast_emod j m).symm]; exact gv q2), _, _, rfl, rfl, (by show 1 + 1 ≤ sizeLine; decide), ?_⟩
      have zl := pc.ln
      refine ⟨pP, _, _, rfl, rfl, e9, (by rw [List.length_map]; exact small1000 (by omega)), ?_, zs ++ [sgn (codeAt r2 st (j / m)) ++ sgn (codeAt r2 st (j % m))], _, _, rfl, ?_, pc.more nd (gc q1) (gc q2)⟩
      · intro b o hb
        rw [upd_ne (ne_of_none hb hP)]
        exact s9 _ _ hb
      · rw [upd_same, List.map_append]
        rfl
    rintro σ H9 ⟨s9, zs, v7, v8, rfl, e9, pc⟩
    have s69 := s7.trans s9
    have e79 := s9 _ _ e7
    have hx9 := s69 _ _ (s46 _ _ hx)
    have hd9 := hd.same (s46.trans s69)
    have at1 : SqL K H9 p1 (rs.map V.int) := at_ (s16.trans s69)
    have s09 := s06.trans s69
    have nSF : pS ≠ pF := ne_of_none (s46 _ _ hx) hF
    have nSP : pS ≠ pP := ne_of_none (s7 _ _ (s46 _ _ hx)) hP
    have nFP : pF ≠ pP := ne_of_none e7 hP
    have hFH := same_none s06 hF
    have hPH := same_none s07 hP
    obtain ⟨cz, hcz⟩ : ∃ cz, bs[bs.length - 1]? = some cz := ⟨_, List.getElem?_eq_getElem (by omega)⟩
    have hcz' : atI (bs.map V.int) (-1) = some (.int cz) := at_end (by rw [List.length_map, List.getElem?_map, hcz]; rfl)
    refine ⟨_, rfl, _, rfl, _, _, _, _, rfl, rfl, at6 s69, hcz', rfl, _, rfl, itd (fun _ => ?_) fun _ => ?_⟩
    · refine ⟨_, rfl, _, rfl, pF, _, rfl, SqL.of e79, fun q1 hq1 => ?_⟩
      have rF : ((fs.map sgn).map V.str).reverse = ((fs.reverse).map sgn).map V.str := by rw [List.map_reverse, List.map_reverse]
      rw [rF]
      have w1 := Same.upd (o := .lst (((fs.reverse).map sgn).map V.str)) hq1
      have g1 : (upd H9 q1 (.lst (((fs.reverse).map sgn).map V.str))) q1 = some (.lst (((fs.reverse).map sgn).map V.str)) := upd_same
      generalize upd H9 q1 (.lst (((fs.reverse).map sgn).map V.str)) = H10 at w1 g1 ⊢
      refine ⟨_, rfl, pP, _, rfl, SqL.of (w1 _ _ e9), fun q2 hq2 => ?_⟩
      rw [show (zs.map V.str).reverse = (zs.reverse).map V.str by rw [List.map_reverse]]
      have w2 := Same.upd (o := .lst ((zs.reverse).map V.str)) hq2
      have g2 : (upd H10 q2 (.lst ((zs.reverse).map V.str))) q2 = some (.lst ((zs.reverse).map V.str)) := upd_same
      generalize upd H10 q2 (.lst ((zs.reverse).map V.str)) = H11 at w2 g2 ⊢
      have s911 := w1.trans w2
      refine ⟨_, rfl, _, _, _, _, rfl, rfl, s911.seq at1, atI_int h1, _, _, rfl, rfl, (by show 4 ≤ sizeLine; decide), fun q3 hq3 => ?_⟩
      have w3 := Same.upd (o := .tup [V.ref pS, .ref q1, .ref q2, .int (1 + r1)]) hq3
      have s912 := s911.trans w3
      exact q (.ref q3) _ ds (cds r2 st m) fs.reverse zs.reverse (1 + r1) _ (s09.trans s912) ⟨rfl, sgl, nd, l2, l6, (List.reverse_perm fs).nodup_iff.mpr fn, (fun c hc => fo c (List.mem_reverse.mp hc)), pc.po.rev, i1, i8⟩ ⟨q3, pS, q1, q2, xs, rfl, upd_same, s912 _ _ hx9, hd9.same s912, w3 _ _ (w2 _ _ g1), w3 _ _ g2, same_none (s09.trans s911) hq3, hSH, same_none s09 hq1, same_none (s09.trans w1) hq2, ne_of_none hx9 hq1, ne_of_none (w1 _ _ hx9) hq2, ne_of_none g1 hq2⟩
    · refine ⟨_, rfl, _, rfl, _, rfl, _, rfl, _, _, _, _, rfl, rfl, at1, atI_int h1, _, _, rfl, rfl, (by show 4 ≤ sizeLine; decide), fun q3 hq3 => ?_⟩
      have w3 := Same.upd (o := .tup [V.ref pS, .ref pF, .ref pP, .int (1 + r1)]) hq3
      exact q (.ref q3) _ ds (cds r2 st m) fs zs (1 + r1) _ (s09.trans w3) ⟨rfl, sgl, nd, l2, l6, fn, fo, pc.po, i1, i8⟩ ⟨q3, pS, pF, pP, xs, rfl, upd_same, w3 _ _ hx9, hd9.same w3, w3 _ _ e79, w3 _ _ e9, same_none s09 hq3, hSH, hFH, hPH, nSF, nSP, nFP⟩
end
end Dear

namespace Dear
open PySem PySem.Spec PyProof.Rows L2
/-! ### try suites with named readings; unpacking of lists -/
theorem XfC.of {K : PySem.W.Frag} {C : Addr} (T : ExcC K C) : XfC K C := ⟨T.hg, T.hk, T.hs, T.hd⟩
/-- try .. except X: ..; try .. except X as n: .. (readings with a name, for loops) -/
def sTryO (K : PySem.W.Frag) (c : Value) (ts : Addr → Value → Option Addr → TS) (Wout : WX) (tb : WX → TS) : TS := fun D σ H => tb (wOnly K c ts Wout D) D σ H
def sTryA (K : PySem.W.Frag) (c : Value) (i : Nat) (ts : Addr → Value → Option Addr → TS) (Wout : WX) (tb : WX → TS) : TS := fun D σ H => tb (wAs K c i ts Wout D) D σ H
section
variable {X : Cx} {x n : Str} {c : Value} {i : Nat} {body suite : List Stmt} {b₀ : Stmt} {np pos pos' : Pos} {tb : WX → TS} {ts : Addr → Value → Option Addr → TS} {Wout : WX}
theorem ps_tryO (hs : X.stack = X.env :: X.outer) (hf : X.env.frame = some X.env.locals) (hc : Names X x c) (tk : Takes X Wout)
    (hb : ∀ (W : WX) (pn : List (Addr × Obj)) (xe : Value → Shared → Prop), Takes (X.tr pn xe) W → PassesOwn (model X.prog X.w) X.A X.env xe → PSs (X.tr pn xe) body (tb W))
    (hsu : ∀ (a : Addr) (oe : Obj) (cls : Value) (d : Option Addr) (pn : List (Addr × Obj)), Zc cls d oe → (∃ vs, oe.data = .fields vs) → PSs (X.suite a ((a, oe) :: pn)) (b₀ :: suite) (ts a cls d)) :
    PS X (.Try body [.ExceptHandler (some (.Name x np)) none (b₀ :: suite) pos'] [] [] pos) (sTryO X.K c ts Wout tb) := ps_try_only hs hf hc tk hb hsu
theorem ps_tryA (hs : X.stack = X.env :: X.outer) (hf : X.env.frame = some X.env.locals) (hN : X.N.Nodup) (hi : X.N[i]? = some n) (hln : X.env.kindOf n = some .local) (hc : Names X x c) (tk : Takes X Wout)
    (hb : ∀ (W : WX) (pn : List (Addr × Obj)) (xe : Value → Shared → Prop), Takes (X.tr pn xe) W → PassesOwn (model X.prog X.w) X.A X.env xe → PSs (X.tr pn xe) body (tb W))
    (hsu : ∀ (a : Addr) (oe : Obj) (cls : Value) (d : Option Addr) (pn : List (Addr × Obj)), Zc cls d oe → (∃ vs, oe.data = .fields vs) → PSs (X.suite a ((a, oe) :: pn)) (b₀ :: suite) (ts a cls d)) :
    PS X (.Try body [.ExceptHandler (some (.Name x np)) (some n) (b₀ :: suite) pos'] [] [] pos) (sTryA X.K c i ts Wout tb) := ps_try_as hs hf hN hi hln hc tk hb hsu
end
theorem pg_lst_k {X : Cx} (K : PySem.W.Frag) {es : List Expr} {k : Nat} {t : TGs} {n : Nat} {pos : Pos} (hc : X.calm = true) (hg : PGs X es t) (h : X.K = K := by rfl)
    (hn : (assignEach es X.env).length = n := by rfl) (hst : (assignEach es X.env).findIdx? (·.1) = none := by rfl) : PG X (.Tuple es k pos) (gLst K n t) := h ▸ pg_lst hc hg hn hst
end Dear

namespace Dear
open PySem PySem.Spec PyProof.Rows L2
/-- a kept refusal of the class at C: True -/
def spRefusal (C : Addr) : Sp := fun vs H Q _ => ∃ a : Addr, vs = [.ref a] ∧ H a = some (ExK (.ref C) none a) ∧ ∀ H', Same H H' → Q (.bl true) H'
theorem sign2 {v : V} (h : v ∈ [V.int 1, V.int (-1)]) : ∃ m : Int, v = .int m ∧ (m = 1 ∨ m = -1) := by
  simp only [List.mem_cons, List.not_mem_nil, or_false] at h
  rcases h with rfl | rfl
  · exact ⟨1, rfl, .inl rfl⟩
  · exact ⟨-1, rfl, .inr rfl⟩
section
variable {P : Program} {w : World} {K : PySem.W.Frag} {mg : Str → Option Value} {base : Heap}
end
end Dear

namespace Dear
open PySem PySem.Spec PyProof.Rows L2
section
variable {P : Program} {w : World} {K : PySem.W.Frag} {mg : Str → Option Value} {base : Heap}
theorem o__law_is_no_turn (T : Txt K mg) : OkF P w K mg base CX0 1 "_law_is_no_turn" ["_law_kept"] (spRefusal T.A.NoTurn) := by
  refine T.f__law_is_no_turn.ok c__law_is_no_turn (fun vs H Q E h => ?_) (fun f cdv A outer s H vs Q E hr h => ?_)
  · obtain ⟨v, rfl, _⟩ := h
    rfl
  · obtain ⟨a, rfl, ha, k⟩ := h
    refine ⟨_, (pss_cons (ps_if (PW.pt (pw_or (pt_not (pt_val (pe_callB (call_isX_k K) (by rfl) T.b_isinstance (by decide +kernel) (pa_cons (pv 0) (pa_cons (pe_glob (v := .ref T.A.NoTurn) rfl T.C_NoTurn rfl) pa_nil))))) (pw_or1 (pt_not (pt_val (pe_callB (call_isX_k K) (by rfl) T.b_isinstance (by decide +kernel) (pa_cons (pv 0) (pa_cons (pe_bltn (v := .ty "ValueError") (by rfl) T.b_ValueError (by decide +kernel) rfl) pa_nil))))))))
(pss_one (ps_ret pe_bl))
pss_nil)
(pss_cons (ps_set (i := 1) c__law_is_no_turn.nd rfl (Or.inl rfl) (pe_callB (call_isXT_k K) (by rfl) T.b_isinstance (by decide +kernel) (pa_cons (pv 0) (pa_cons (pe_tup (pa_cons (pe_glob (v := .ref T.A.NoBook) rfl T.C_NoBook rfl) (pa_cons (pe_glob (v := .ref T.A.NoTongue) rfl T.C_NoTongue rfl) (pa_cons (pe_glob (v := .ref T.A.NoWants) rfl T.C_NoWants rfl) (pa_cons (pe_glob (v := .ref T.A.NoTree) rfl T.C_NoTree rfl) (pa_cons (pe_glob (v := .ref T.A.TooMany) rfl T.C_TooMany rfl) (pa_cons (pe_glob (v := .ref T.A.NoUndo) rfl T.C_NoUndo rfl) (pa_cons (pe_glob (v := .ref T.A.NoCount) rfl T.C_NoCount rfl) (pa_cons (pe_glob (v := .ref T.A.NoNumber) rfl T.C_NoNumber rfl) (pa_cons (pe_glob (v := .ref T.A.NoRow) rfl T.C_NoRow rfl) (pa_cons (pe_glob (v := .ref T.A.NoText) rfl T.C_NoText rfl) pa_nil))))))))))) pa_nil))))
(pss_one (ps_ret (pe_and (pe_not (pv 1)) (pe_one (pe_not (pe_callB (call_isXT_k K) (by rfl) T.b_isinstance (by decide +kernel) (pa_cons (pv 0) (pa_cons (pe_tup (pa_cons (pe_glob (v := .ref T.A.Unknown) rfl T.C_Unknown rfl) (pa_cons (pe_glob (v := .ref T.A.NoThing) rfl T.C_NoThing rfl) (pa_cons (pe_glob (v := .ref T.A.BadSign) rfl T.C_BadSign rfl) pa_nil)))) pa_nil)))))))))), ?_⟩
    refine ⟨_, rfl, a, _, _, _, _, rfl, ha, T.X_NoTurn.c, .own _, T.q_NoTurn_NoTurn, _, rfl, iteF ?_⟩
    refine ⟨_, rfl, a, _, _, _, _, rfl, ha, T.X_NoTurn.c, .ty _, T.q_NoTurn_ValueError, _, rfl, iteF ?_⟩
    refine ⟨_, rfl, (by show 10 ≤ sizeLine; decide), fun p hp => ?_⟩
    refine ⟨a, _, p, _, _, false, rfl, Same.upd hp _ _ ha, T.X_NoTurn.c, upd_same, cls_all (cs := [_, _, _, _, _, _, _, _, _, _]), kit_none ?_, ?_⟩
    · intro u hu
      simp only [List.map_cons, List.map_nil, List.mem_cons, List.not_mem_nil, or_false] at hu
      rcases hu with rfl | rfl | rfl | rfl | rfl | rfl | rfl | rfl | rfl | rfl
      · exact T.q_NoTurn_NoBook
      · exact T.q_NoTurn_NoTongue
      · exact T.q_NoTurn_NoWants
      · exact T.q_NoTurn_NoTree
      · exact T.q_NoTurn_TooMany
      · exact T.q_NoTurn_NoUndo
      · exact T.q_NoTurn_NoCount
      · exact T.q_NoTurn_NoNumber
      · exact T.q_NoTurn_NoRow
      · exact T.q_NoTurn_NoText
    have s1 := Same.upd (o := .tup [.ref T.A.NoBook, .ref T.A.NoTongue, .ref T.A.NoWants, .ref T.A.NoTree, .ref T.A.TooMany, .ref T.A.NoUndo, .ref T.A.NoCount, .ref T.A.NoNumber, .ref T.A.NoRow, .ref T.A.NoText]) hp
    refine ⟨_, rfl, _, rfl, _, rfl, iteT ⟨_, rfl, (by show 3 ≤ sizeLine; decide), fun p2 hp2 => ?_⟩⟩
    refine ⟨a, _, p2, _, _, false, rfl, Same.upd hp2 _ _ (s1 _ _ ha), T.X_NoTurn.c, upd_same, cls_all (cs := [_, _, _]), kit_none ?_, ?_⟩
    · intro u hu
      simp only [List.map_cons, List.map_nil, List.mem_cons, List.not_mem_nil, or_false] at hu
      rcases hu with rfl | rfl | rfl
      · exact T.q_NoTurn_Unknown
      · exact T.q_NoTurn_NoThing
      · exact T.q_NoTurn_BadSign
    exact ⟨_, rfl, k _ (s1.trans (Same.upd hp2))⟩
end
end Dear

namespace Dear
open PySem PySem.Spec PyProof.Rows L2
/-! ### dearer tongues, more often wanted things -/
def mulP (x : Int × Int) : D → D
  | .tup [.int t, .int b] => frD (lowF (timesT (t, b) x) (bots (t, b) x))
  | d => d
def mulS (x : Int × Int) : D → D
  | .tup [s, p, l] => .tup [s, mulP x p, mulP x l]
  | d => d
def mulW (n : Int) (w : List Nat × Int) : List Nat × Int := (w.1, w.2 * n)
def maxC (ws : List (List Nat × Int)) : Int := (ws.map Prod.snd).foldl max 0
theorem foldl_max : ∀ {l : List Int} {a : Int}, a ≤ l.foldl max a ∧ (∀ x ∈ l, x ≤ l.foldl max a) ∧ (l.foldl max a = a ∨ l.foldl max a ∈ l)
  | [], a => ⟨Int.le_refl _, (fun _ h => nomatch h), .inl rfl⟩
  | x :: l, a => by
    obtain ⟨h1, h2, h3⟩ := foldl_max (l := l) (a := max a x)
    refine ⟨Int.le_trans (Int.le_max_left a x) h1, fun y hy => ?_, ?_⟩
    · rcases List.mem_cons.mp hy with rfl | hy
      · exact Int.le_trans (Int.le_max_right a y) h1
      · exact h2 y hy
    · show List.foldl max (max a x) l = a ∨ List.foldl max (max a x) l ∈ x :: l
      rcases h3 with h3 | h3
      · rw [h3]
        by_cases c : a ≤ x
        · rw [Int.max_eq_right c]
          exact .inr List.mem_cons_self
        · rw [Int.max_eq_left (by omega)]
          exact .inl rfl
      · exact .inr (List.mem_cons_of_mem _ h3)
theorem maxC_eq {ws : List (List Nat × Int)} (wo : ∀ w ∈ ws, 0 ≤ w.2) {m : Int} (hm : m ∈ ws.map Prod.snd) (hl : ∀ y ∈ ws.map Prod.snd, y ≤ m) : m = maxC ws := by
  obtain ⟨h1, h2, h3⟩ := foldl_max (l := ws.map Prod.snd) (a := 0)
  have a1 := h2 m hm
  have m0 : 0 ≤ m := by
    obtain ⟨w, hw, rfl⟩ := List.mem_map.mp hm
    exact wo w hw
  have a2 : maxC ws ≤ m := by
    rcases h3 with h3 | h3
    · unfold maxC
      omega
    · exact hl _ h3
  unfold maxC at *
  omega
theorem maxC_le {ws : List (List Nat × Int)} : ∀ w ∈ ws, w.2 ≤ maxC ws := fun w hw => (foldl_max (l := ws.map Prod.snd) (a := 0)).2.1 w.2 (List.mem_map_of_mem hw)
theorem maxC_0 (ws : List (List Nat × Int)) : 0 ≤ maxC ws := (foldl_max (l := ws.map Prod.snd) (a := 0)).1
theorem maxC_9 {ws : List (List Nat × Int)} (h : ∀ w ∈ ws, w.2 ≤ 1000000000) : maxC ws ≤ 1000000000 := by
  rcases (foldl_max (l := ws.map Prod.snd) (a := 0)).2.2 with e | e
  · unfold maxC
    omega
  · obtain ⟨w, hw, e2⟩ := List.mem_map.mp e
    have := h w hw
    unfold maxC
    omega
def spDearer (C N : Addr) : Sp := fun vs H Q E => ∃ (v f : V) (d e : D), vs = [v, f] ∧ Dt H v d ∧ Ok d ∧ Dt H f e ∧ Ok e ∧
  (∀ u, tgBad d = some u → ∀ (dd : Addr) (H' : Hp), Same H H' → H dd = none → H' dd = some (.xd [("part", u)]) → E (.ref C) (some dd) H') ∧
  (tgBad d = none → isPrice e = false → ∀ H', Same H H' → E (.ref N) none H') ∧
  (tgBad d = none → isPrice e = true → ∃ (x : Int × Int) (ds : List D) (cs fs : List Nat) (zs : List Str) (i : Int) (H0 : Hp), e = frD x ∧ smallF 40 x ∧ TgD d ds cs fs zs i ∧ TgAt H0 H v ds cs fs zs i ∧ ∀ v' H', Same H H' → TgAt H H' v' (ds.map (mulS x)) cs fs zs i → Q v' H')
def spMore (W N : Addr) : Sp := fun vs H Q E => ∃ (u f : V) (d e : D), vs = [u, f] ∧ Dt H u d ∧ Ok d ∧ Dt H f e ∧ Ok e ∧
  (∀ m, wantsBad d = some m → ∀ (dd : Addr) (H' : Hp), Same H H' → H dd = none → H' dd = some (.xd [("number", m)]) → E (.ref W) (some dd) H') ∧
  (wantsBad d = none → ∃ (a : Addr) (xs : List V) (ws : List (List Nat × Int)), u = .ref a ∧ H a = some (.lst xs) ∧ DtAll H xs (ws.map wantD) ∧ (∀ w ∈ ws, WOk w) ∧ 1 ≤ ws.length ∧ ws.length ≤ 20 ∧
    ((∀ n : Int, e = .int n → 1 ≤ n → n ≤ 1000 → 1000000000 < maxC ws * n) → ∀ H', Same H H' → E (.ref N) none H') ∧
    ∀ n : Int, e = .int n → 1 ≤ n → n ≤ 1000 → maxC ws * n ≤ 1000000000 → ∀ (q : Addr) (ys : List V) (H' : Hp), H q = none → Same H H' → H' q = some (.lst ys) → DtAll H' ys ((ws.map (mulW n)).map wantD) → Q (.ref q) H')
theorem frD_price {t b : Int} (h : PrOk t b) : smallF 40 (t, b) := by
  obtain ⟨h1, h2, h3, h4, _⟩ := h
  refine ⟨h2, ?_, ?_⟩
  · show t.natAbs < 2 ^ 40
    omega
  · show b.natAbs < 2 ^ 40
    omega
/-- the parts of a want -/
theorem want_at {H : Hp} {v : V} {w : List Nat × Int} (h : Dt H v (wantD w)) : ∃ t : Addr, v = .ref t ∧ H t = some (.tup [.str (txt w.1), .int w.2]) := by
  obtain ⟨t, ys, rfl, ht, hy⟩ := h.tupAt
  cases hy with
  | cons h1 h2 =>
    cases h1
    cases h2 with
    | cons h3 h4 =>
      cases h3
      cases h4
      exact ⟨t, rfl, ht⟩
/-- the parts of a sign -/
theorem sign_at {H : Hp} {v : V} {d : D} {c : Nat} (h : Dt H v d) (s : SgD d c) : ∃ (q pa : Addr) (t b : Int) (l : D) (lv : V), v = .ref q ∧ H q = some (.tup [.str (sgn c), .ref pa, lv]) ∧ d = .tup [.str (sgn c), .tup [.int t, .int b], l] ∧ H pa = some (.tup [.int t, .int b]) ∧ Dt H lv l ∧ PrOk t b ∧ LastD l := by
  obtain ⟨t, b, l, rfl, hp, hl⟩ := s.ex
  obtain ⟨q, ys, rfl, hq, hy⟩ := h.tupAt
  cases hy with
  | cons h1 h2 =>
    cases h1
    cases h2 with
    | cons h3 h4 =>
      cases h4 with
      | cons h5 h6 =>
        cases h6
        obtain ⟨pa, zs, rfl, hpa, hz⟩ := h3.tupAt
        cases hz with
        | cons g1 g2 =>
          cases g1
          cases g2 with
          | cons g3 g4 =>
            cases g3
            cases g4
            exact ⟨q, pa, t, b, l, _, rfl, hq, rfl, hpa, h5, hp, hl⟩
theorem last_at {H : Hp} {v : V} {l : D} (h : Dt H v l) (hl : LastD l) : (v = .non ∧ l = .non) ∨ ∃ (q : Addr) (t b : Int), v = .ref q ∧ l = .tup [.int t, .int b] ∧ H q = some (.tup [.int t, .int b]) ∧ PrOk t b := by
  match l, hl with
  | .non, _ =>
    cases h
    exact .inl ⟨rfl, rfl⟩
  | .tup [.int t, .int b], hl =>
    obtain ⟨q, zs, rfl, hq, hz⟩ := h.tupAt
    cases hz with
    | cons g1 g2 =>
      cases g1
      cases g2 with
      | cons g3 g4 =>
        cases g3
        cases g4
        exact .inr ⟨q, t, b, rfl, rfl, hq, hl⟩
/-- pure data stay pure -/
theorem pu_mulS {x : Int × Int} {ds : List D} {cs : List Nat} (h : SgAll ds cs) : PuAll (ds.map (mulS x)) := by
  induction h with
  | nil => trivial
  | cons sd _ ih =>
    refine ⟨?_, ih⟩
    obtain ⟨t, b, l, rfl, hp, hl⟩ := sd.ex
    match l, hl with
    | .non, _ => exact ⟨trivial, ⟨trivial, trivial, trivial⟩, trivial, trivial⟩
    | .tup [.int t2, .int b2], _ => exact ⟨trivial, ⟨trivial, trivial, trivial⟩, ⟨trivial, trivial, trivial⟩, trivial⟩
theorem SgAll.take : ∀ {ds : List D} {cs : List Nat} (n : Nat), SgAll ds cs → SgAll (ds.take n) (cs.take n)
  | _, _, 0, _ => .nil
  | _, _, _ + 1, .nil => .nil
  | _, _, n + 1, .cons a b => .cons a (SgAll.take n b)
section
variable {P : Program} {w : World} {K : PySem.W.Frag} {mg : Str → Option Value} {base : Heap}
theorem o_dearer (T : Txt K mg) : OkF P w K mg base (L2.CX P w) 7 "dearer" ["tongue", "factor"] (spDearer T.A.NoTongue T.A.NoTurn) := by
  have o_look_at_tongue := o_look_at_tongue (P := P) (w := w) (base := base) T
  have o_is_fraction := o_is_fraction (P := P) (w := w) (base := base) T
  have o_times := o_times (P := P) (w := w) (base := base) T
  refine T.f_dearer.okX c_dearer (fun vs H Q E h => ?_) (fun f cdv A outer s H vs Q E hr h => ?_)
  · obtain ⟨v, f, d, e, rfl, _⟩ := h
    rfl
  · obtain ⟨v, fv, d, e, rfl, hv, okd, hf, oke, kB, kN, k⟩ := h
    refine ⟨_, (pss_cons (ps_expr (pe_cx o_look_at_tongue hr (takes_of rfl rfl rfl rfl) (pa_cons (pv 0) pa_nil)))
(pss_cons (ps_if (PW.pt (pw_or (pt_not (pt_val (pe_c o_is_fraction hr (pa_cons (pv 1) pa_nil)))) (pw_or1 (pt_cmpR op_le (pe_ix (ix_tup_k K) (pv 1) pe_int (fun _ _ => rfl)) pe_int (nomark _)))))
(pss_one (ps_raise rfl (takes_of rfl rfl rfl rfl) (pmk_own PySem.F.excBase_ValueError T.X_NoTurn.x T.X_NoTurn.g T.X_NoTurn.k (raises_own T.X_NoTurn.b T.X_NoTurn.t) rfl)))
pss_nil)
(pss_cons (ps_asg (pv 0) (pg_tup_k K (n := 4) rfl (pgs_cons (pg_name (i := 2) c_dearer.nd rfl (Or.inl rfl)) (pgs_cons (pg_name (i := 3) c_dearer.nd rfl (Or.inl rfl)) (pgs_cons (pg_name (i := 4) c_dearer.nd rfl (Or.inl rfl)) (pgs_cons (pg_name (i := 5) c_dearer.nd rfl (Or.inl rfl)) pgs_nil))))))
(pss_cons (ps_set (i := 6) c_dearer.nd rfl (Or.inl rfl) (pe_lst pa_nil))
(pss_cons (ps_for (passes_of rfl) rfl (pi_list_k K (pv 2)) (pg_tup_k K (n := 3) rfl (pgs_cons (pg_name (i := 7) c_dearer.nd rfl (Or.inl rfl)) (pgs_cons (pg_name (i := 8) c_dearer.nd rfl (Or.inl rfl)) (pgs_cons (pg_name (i := 9) c_dearer.nd rfl (Or.inl rfl)) pgs_nil))))
(pss_one (ps_if (pt_cmpR op_isN (pv 9) pe_non (nomark _))
(pss_one (ps_expr (pe_bm PySem.F.plainAttrs_list PySem.F.slot_list_append PySem.F.type_list_append mt_append (pv 6) (pa_cons (pe_tup (pa_cons (pv 7) (pa_cons (pe_c o_times hr (pa_cons (pv 8) (pa_cons (pv 1) pa_nil))) (pa_cons pe_non pa_nil)))) pa_nil))))
(pss_one (ps_expr (pe_bm PySem.F.plainAttrs_list PySem.F.slot_list_append PySem.F.type_list_append mt_append (pv 6) (pa_cons (pe_tup (pa_cons (pv 7) (pa_cons (pe_c o_times hr (pa_cons (pv 8) (pa_cons (pv 1) pa_nil))) (pa_cons (pe_c o_times hr (pa_cons (pv 9) (pa_cons (pv 1) pa_nil))) pa_nil)))) pa_nil)))))))
(pss_one (ps_ret (pe_tup (pa_cons (pv 6) (pa_cons (pe_callTy (call_list_of_k K) (by rfl) T.b_list (by decide +kernel) (pa_cons (pv 3) pa_nil)) (pa_cons (pe_callTy (call_list_of_k K) (by rfl) T.b_list (by decide +kernel) (pa_cons (pv 4) pa_nil)) (pa_cons (pv 5) pa_nil)))))))))))), ?_⟩
    refine ⟨_, rfl, v, d, rfl, hv, okd, fun ok H1 s1 => ?_, kB⟩
    refine ⟨_, rfl, fv, e, rfl, hf.same s1, oke, fun H2 s2 => ⟨_, rfl, ?_⟩⟩
    have s02 := s1.trans s2
    cases hfr : isFr e with
    | false => exact iteT (kN ok (by unfold isPrice; rw [hfr]; rfl) _ s02)
    | true =>
    obtain ⟨t, b, rfl, b0⟩ := fr_shape hfr
    obtain ⟨pf, zf, rfl, hpf, hzf⟩ := (hf.same s02).tupAt
    have ez : zf = [.int t, .int b] := by
      cases hzf with
      | cons g1 g2 =>
        cases g1
        cases g2 with
        | cons g3 g4 =>
          cases g3
          cases g4
          rfl
    subst ez
    refine iteF ⟨_, rfl, _, _, _, _, rfl, rfl, SqT.of hpf, rfl, _, _, rfl, rfl, _, rfl, itd (fun c => ?_) fun c => ?_⟩
    · refine kN ok ?_ _ s02
      unfold isPrice
      show (_ && decide (0 < t)) = false
      rw [decide_eq_false (by omega), Bool.and_false]
    have pe : isPrice (.tup [.int t, .int b]) = true := by
      unfold isPrice
      rw [hfr]
      show (true && decide (0 < t)) = true
      rw [decide_eq_true (by omega)]
      rfl
    obtain ⟨x, ds, cs, fs, zs, i, H0, ex, sx, td, ta, kk⟩ := k ok pe
    have ex : (t, b) = x := by
      unfold frD at ex
      injection ex with ex
      injection ex with e1 e2
      injection e1 with e1
      injection e2 with e2 _
      injection e2 with e2
      rw [e1, e2]
    subst ex
    obtain ⟨p, a, bb, cc, xs, rfl, h1, h2, h3, h4, h5, _⟩ := ta.ex
    have fx : ∀ {H' : Hp}, Same H2 H' → Fq H' pf (t, b) 40 := fun s' => ⟨s' _ _ hpf, sx.1, sx.2.1, sx.2.2⟩
    refine ⟨_, rfl, p, _, rfl, SqT.of (s02 _ _ h1), rfl, _, _, rfl, _, _, rfl, _, _, rfl, _, _, rfl, rfl, ?_⟩
    refine ⟨(by show 0 ≤ sizeLine; decide), fun pR hR => ?_⟩
    have u3 := Same.upd (o := .lst []) hR
    have e3 : (upd H2 pR (.lst [])) pR = some (.lst []) := upd_same
    generalize upd H2 pR (.lst []) = H3 at u3 e3 ⊢
    have hRH := same_none s02 hR
    have h2' := s02 _ _ h2
    have lx : xs.length = cs.length := by rw [h3.length, td.sg.facts.2.2.2.2.1]
    have l6 := td.l6
    refine ⟨_, rfl, a, rfl, ⟨_, SqL.of (u3 _ _ h2')⟩, for_list (K := K) (a := a) (xs := xs) (fun j σ H' => Same H2 H' ∧ ∃ (ys : List V) (v7 v8 v9 : Option V), σ = [some (.ref p), some (.ref pf), some (.ref a), some (.ref bb), some (.ref cc), some (.int i), some (.ref pR), v7, v8, v9] ∧ H' pR = some (.lst ys) ∧ DtAll H' ys ((ds.take j).map (mulS (t, b))))
      ⟨u3, [], _, _, _, rfl, e3, .nil⟩ (fun j σ H' _ h => SqL.of (h.1 _ _ h2')) ?_ ?_⟩
    · rintro j x σ H4 hx ⟨s4, ys, v7, v8, v9, rfl, hy, hd⟩
      obtain ⟨dj, hdj, dx⟩ := h3.get hx
      obtain ⟨c, hc, sd⟩ := td.sg.get hdj
      obtain ⟨q, pa, t1, b1, l, lv, rfl, hq, rfl, hpa, dl, pr, ll⟩ := sign_at (dx.same (s02.trans s4)) sd
      have jl := (List.getElem?_eq_some_iff.mp hx).1
      have ly : ys.length = j := by
        have e1 := hd.length
        rw [List.length_map, List.length_take, td.sg.facts.2.2.2.2.1] at e1
        omega
      have puy : PuAll ((ds.take j).map (mulS (t, b))) := pu_mulS (td.sg.take j)
      refine ⟨q, _, rfl, SqT.of hq, rfl, _, _, rfl, _, _, rfl, _, _, rfl, rfl, ?_⟩
      have fp : Fq H4 pa (t1, b1) 40 := ⟨hpa, (frD_price pr).1, (frD_price pr).2.1, (frD_price pr).2.2⟩
      have tkm : (ds.take (j + 1)).map (mulS (t, b)) = (ds.take j).map (mulS (t, b)) ++ [mulS (t, b) (.tup [.str (sgn c), .tup [.int t1, .int b1], l])] := by
        rw [take_more hdj, List.map_append]
        rfl
      rcases last_at dl ll with ⟨rfl, rfl⟩ | ⟨ql, t2, b2, rfl, rfl, hql, pr2⟩
      · refine ⟨_, rfl, rfl, _, rfl, iteT ⟨_, rfl, .inl ⟨rfl, _, SqL.of hy⟩, _, rfl, _, rfl, _, rfl, pa, pf, _, _, 40, rfl, fp, fx s4, by decide, by decide, fun r H5 hr5 s5 e5 => ?_⟩⟩
        refine ⟨(by show 3 ≤ sizeLine; decide), fun pn hpn => ?_⟩
        have u6 := Same.upd (o := .tup [V.str (sgn c), V.ref r, V.non]) hpn
        have e6 : (upd H5 pn (.tup [V.str (sgn c), V.ref r, V.non])) pn = some (.tup [V.str (sgn c), V.ref r, V.non]) := upd_same
        generalize upd H5 pn (.tup [V.str (sgn c), V.ref r, V.non]) = H6 at u6 e6 ⊢
        have s46 := s5.trans u6
        have hy6 := s46 _ _ hy
        refine ⟨pR, _, _, rfl, rfl, hy6, small1000 (by omega), ?_, ys ++ [.ref pn], _, _, _, rfl, upd_same, ?_⟩
        · intro b' o hb
          rw [upd_ne (ne_of_none hb hR)]
          exact s46 _ _ (s4 _ _ hb)
        · have tp := TP.upd (o := .lst (ys ++ [.ref pn])) hy6
          rw [tkm]
          refine ((hd.same s46).tp tp puy).app (.cons ?_ .nil)
          exact .tup (tp _ _ e6) (.cons (.str _) (.cons (.tup (tp _ _ (u6 _ _ e5)) (.cons (.int _) (.cons (.int _) .nil))) (.cons .non .nil)))
      · refine ⟨_, rfl, rfl, _, rfl, iteF ⟨_, rfl, .inl ⟨rfl, _, SqL.of hy⟩, _, rfl, _, rfl, _, rfl, pa, pf, _, _, 40, rfl, fp, fx s4, by decide, by decide, fun r H5 hr5 s5 e5 => ?_⟩⟩
        refine ⟨_, rfl, _, rfl, ql, pf, (t2, b2), _, 40, rfl, ⟨s5 _ _ hql, (frD_price pr2).1, (frD_price pr2).2.1, (frD_price pr2).2.2⟩, fx (s4.trans s5), by decide, by decide, fun r2 H5' hr5' s5' e5' => ?_⟩
        refine ⟨(by show 3 ≤ sizeLine; decide), fun pn hpn => ?_⟩
        have u6 := Same.upd (o := .tup [V.str (sgn c), V.ref r, V.ref r2]) hpn
        have e6 : (upd H5' pn (.tup [V.str (sgn c), V.ref r, V.ref r2])) pn = some (.tup [V.str (sgn c), V.ref r, V.ref r2]) := upd_same
        generalize upd H5' pn (.tup [V.str (sgn c), V.ref r, V.ref r2]) = H6 at u6 e6 ⊢
        have s56 := s5'.trans u6
        have s46 := s5.trans s56
        have hy6 := s46 _ _ hy
        refine ⟨pR, _, _, rfl, rfl, hy6, small1000 (by omega), ?_, ys ++ [.ref pn], _, _, _, rfl, upd_same, ?_⟩
        · intro b' o hb
          rw [upd_ne (ne_of_none hb hR)]
          exact s46 _ _ (s4 _ _ hb)
        · have tp := TP.upd (o := .lst (ys ++ [.ref pn])) hy6
          rw [tkm]
          refine ((hd.same s46).tp tp puy).app (.cons ?_ .nil)
          exact .tup (tp _ _ e6) (.cons (.str _) (.cons (.tup (tp _ _ (s56 _ _ e5)) (.cons (.int _) (.cons (.int _) .nil))) (.cons (.tup (tp _ _ (u6 _ _ e5')) (.cons (.int _) (.cons (.int _) .nil))) .nil)))
    rintro σ H4 ⟨s4, ys, v7, v8, v9, rfl, hy, hd⟩
    rw [lx, List.take_of_length_le (by rw [td.sg.facts.2.2.2.2.1]; exact Nat.le_refl _)] at hd
    have s04 := s02.trans s4
    refine ⟨_, rfl, _, rfl, bb, _, rfl, .inl (SqL.of (s04 _ _ h4)), fun q1 hq1 => ?_⟩
    have w1 := Same.upd (o := .lst ((fs.map sgn).map V.str)) hq1
    have g1 : (upd H4 q1 (.lst ((fs.map sgn).map V.str))) q1 = some (.lst ((fs.map sgn).map V.str)) := upd_same
    generalize upd H4 q1 (.lst ((fs.map sgn).map V.str)) = H5 at w1 g1 ⊢
    refine ⟨_, rfl, cc, _, rfl, .inl (SqL.of (w1 _ _ (s04 _ _ h5))), fun q2 hq2 => ?_⟩
    have w2 := Same.upd (o := .lst (zs.map V.str)) hq2
    have g2 : (upd H5 q2 (.lst (zs.map V.str))) q2 = some (.lst (zs.map V.str)) := upd_same
    generalize upd H5 q2 (.lst (zs.map V.str)) = H6 at w2 g2 ⊢
    refine ⟨_, rfl, (by show 4 ≤ sizeLine; decide), fun q3 hq3 => ?_⟩
    have w3 := Same.upd (o := .tup [V.ref pR, .ref q1, .ref q2, .int i]) hq3
    have s46 := w1.trans w2
    have s47 := s46.trans w3
    exact kk (.ref q3) _ (s04.trans s47) ⟨q3, pR, q1, q2, ys, rfl, upd_same, s47 _ _ hy, hd.same s47, w3 _ _ (w2 _ _ g1), w3 _ _ g2, same_none (s04.trans s46) hq3, hRH, same_none s04 hq1, same_none (s04.trans w1) hq2, ne_of_none hy hq1, ne_of_none (w1 _ _ hy) hq2, ne_of_none g1 hq2⟩
end
end Dear

namespace Dear
open PySem PySem.Spec PyProof.Rows L2
section
variable {P : Program} {w : World} {K : PySem.W.Frag} {mg : Str → Option Value} {base : Heap}
theorem o_more_often (T : Txt K mg) : OkF P w K mg base (L2.CX P w) 5 "more_often" ["wants", "factor"] (spMore T.A.NoWants T.A.NoTurn) := by
  have o_look_at_wants := o_look_at_wants (P := P) (w := w) (base := base) T
  have o_is_whole := o_is_whole (P := P) (w := w) (base := base) T
  refine T.f_more_often.okX c_more_often (fun vs H Q E h => ?_) (fun f cdv A outer s H vs Q E hr h => ?_)
  · obtain ⟨v, f, d, e, rfl, _⟩ := h
    rfl
  · obtain ⟨v, fv, d, e, rfl, hv, okd, hf, oke, kB, k⟩ := h
    refine ⟨_, (pss_cons (ps_expr (pe_cx o_look_at_wants hr (takes_of rfl rfl rfl rfl) (pa_cons (pv 0) pa_nil)))
(pss_cons (ps_if (PW.pt (pw_or (pt_not (pt_val (pe_c o_is_whole hr (pa_cons (pv 1) pa_nil)))) (pw_or1 (pt_not (pt_chain op_le op_le pe_int (pv 1) (pe_gi T.g_GREATEST_FACTOR))))))
(pss_one (ps_raise rfl (takes_of rfl rfl rfl rfl) (pmk_own PySem.F.excBase_ValueError T.X_NoTurn.x T.X_NoTurn.g T.X_NoTurn.k (raises_own T.X_NoTurn.b T.X_NoTurn.t) rfl)))
pss_nil)
(pss_cons (ps_if (pt_cmpR op_gt (pe_op op_mul (pe_callB (cr_max_k K rfl) (by rfl) T.b_max (by decide +kernel) (pa_cons (pe_lc (own := [("name", 2), ("count", 3)]) (tt := tYes) (by rfl) c_more_often.nd (pi_list_k K (pv 0)) (blkOk_by (own := [("name", 2), ("count", 3)]) (N := n_more_often) (sc := defScope s_more_often) (by decide +kernel)) (fun _ _ _ _ _ => (pg_tup_k K (n := 2) rfl (pgs_cons (pg_name (i := 2) c_more_often.nd rfl (Or.inl rfl)) (pgs_cons (pg_name (i := 3) c_more_often.nd rfl (Or.inl rfl)) pgs_nil)))) (fun _ _ _ _ _ => pts_nil) (fun _ _ _ _ _ => (pv 3))) pa_nil)) (pv 1)) (pe_gi T.g_MOST_OFTEN) (nomark _))
(pss_one (ps_raise rfl (takes_of rfl rfl rfl rfl) (pmk_own PySem.F.excBase_ValueError T.X_NoTurn.x T.X_NoTurn.g T.X_NoTurn.k (raises_own T.X_NoTurn.b T.X_NoTurn.t) rfl)))
pss_nil)
(pss_one (ps_ret (pe_lc (own := [("name", 2), ("count", 3)]) (tt := tYes) (by rfl) c_more_often.nd (pi_list_k K (pv 0)) (blkOk_by (own := [("name", 2), ("count", 3)]) (N := n_more_often) (sc := defScope s_more_often) (by decide +kernel)) (fun _ _ _ _ _ => (pg_tup_k K (n := 2) rfl (pgs_cons (pg_name (i := 2) c_more_often.nd rfl (Or.inl rfl)) (pgs_cons (pg_name (i := 3) c_more_often.nd rfl (Or.inl rfl)) pgs_nil)))) (fun _ _ _ _ _ => pts_nil) (fun _ _ _ _ _ => (pe_tup (pa_cons (pv 2) (pa_cons (pe_op op_mul (pv 3) (pv 1)) pa_nil)))))))))), ?_⟩
    refine ⟨_, rfl, v, d, rfl, hv, okd, fun ok H1 s1 => ?_, kB⟩
    obtain ⟨a, xs, ws, rfl, ha, hall, wo, l1, l20, kN, kk⟩ := k ok
    have lx : xs.length = ws.length := by rw [hall.length, List.length_map]
    refine ⟨_, rfl, fv, e, rfl, hf.same s1, _, rfl, ?_⟩
    cases hf with
    | int n =>
      refine iteF ⟨_, rfl, _, _, rfl, rfl, _, rfl, itd (fun c1 => ?_) fun c1 => ?_⟩
      · refine ⟨_, _, rfl, rfl, _, rfl, itnd (fun c2 => ?_) fun c2 => ?_⟩
        · refine kN (fun m em m1 m2 => ?_) _ s1
          injection em with em
          omega
        -- the counts
        have ha1 := s1 _ _ ha
        refine ⟨_, rfl, a, rfl, ⟨_, SqL.of ha1⟩, fun pD hD => lc_list (K := K) (a := a) (xs := xs) (fun j H' => Same H1 H' ∧ H' pD = some (.lst (((ws.take j).map Prod.snd).map V.int))) ⟨Same.upd hD, upd_same⟩ (fun j H' _ e => SqL.of (e.1 _ _ ha1)) ?_ ?_⟩
        · rintro j x H' hx ⟨sj, ej⟩
          obtain ⟨dj, hdj, dx⟩ := hall.get hx
          rw [List.getElem?_map] at hdj
          obtain ⟨w, hw, rfl⟩ : ∃ w, ws[j]? = some w ∧ dj = wantD w := by
            cases q9 : ws[j]? with
            | none => rw [q9] at hdj; cases hdj
            | some c => rw [q9] at hdj; exact ⟨c, rfl, (Option.some.inj hdj).symm⟩
          obtain ⟨t, rfl, ht⟩ := want_at dx
          refine ⟨t, _, rfl, SqT.of (sj _ _ (s1 _ _ ht)), rfl, _, _, rfl, _, _, rfl, rfl, rfl, _, rfl, _, ej, ?_, ?_, ?_⟩
          · rw [List.length_map, List.length_map, List.length_take]
            exact small1000 (by omega)
          · intro b o hb
            rw [upd_ne (ne_of_none hb hD)]
            exact sj _ _ hb
          · rw [upd_same, take_more hw, List.map_append, List.map_append]
            rfl
        rintro H2 ⟨s2, e2⟩
        rw [lx, List.take_length] at e2
        refine ⟨pD, _, rfl, SqL.of e2, (by rw [List.length_map]; omega), fun m hm hl => ?_⟩
        have em := maxC_eq (fun w hw => (wo w hw).c0) hm hl
        subst em
        have m0 := maxC_0 ws
        have m9 := maxC_9 fun w hw => (wo w hw).c9
        have c2 : n ≤ 1000 := c2
        refine ⟨_, rfl, _, _, rfl, rfl, .inl ⟨by omega, by omega⟩, _, _, rfl, rfl, _, rfl, itd (fun c3 => ?_) fun c3 => ?_⟩
        · refine kN (fun m em m1 m2 => ?_) _ (s1.trans s2)
          injection em with em
          subst em
          exact c3
        have c3 : ¬ (1000000000 : Int) < maxC ws * n := c3
        have s02 := s1.trans s2
        have ha2 := s2 _ _ ha1
        refine ⟨_, rfl, a, rfl, ⟨_, SqL.of ha2⟩, fun pE hE => lc_list (K := K) (a := a) (xs := xs) (fun j H' => Same H2 H' ∧ ∃ ys : List V, H' pE = some (.lst ys) ∧ DtAll H' ys (((ws.take j).map (mulW n)).map wantD)) ⟨Same.upd hE, [], upd_same, .nil⟩ (fun j H' _ e => SqL.of (e.1 _ _ ha2)) ?_ ?_⟩
        · rintro j x H' hx ⟨sj, ys, ej, dj'⟩
          obtain ⟨dj, hdj, dx⟩ := hall.get hx
          rw [List.getElem?_map] at hdj
          obtain ⟨w, hw, rfl⟩ : ∃ w, ws[j]? = some w ∧ dj = wantD w := by
            cases q9 : ws[j]? with
            | none => rw [q9] at hdj; cases hdj
            | some c => rw [q9] at hdj; exact ⟨c, rfl, (Option.some.inj hdj).symm⟩
          obtain ⟨t, rfl, ht⟩ := want_at dx
          have okw := wo w (List.mem_of_getElem? hw)
          have w0 := okw.c0
          have w9 := okw.c9
          refine ⟨t, _, rfl, SqT.of (sj _ _ (s02 _ _ ht)), rfl, _, _, rfl, _, _, rfl, rfl, rfl, _, rfl, _, rfl, _, rfl, _, _, rfl, rfl, .inl ⟨by omega, by omega⟩, (by show 2 ≤ sizeLine; decide), fun pn hpn => ?_⟩
          have u6 := Same.upd (o := .tup [V.str (txt w.1), V.int (w.2 * n)]) hpn
          have e6 : (upd H' pn (.tup [V.str (txt w.1), V.int (w.2 * n)])) pn = some (.tup [V.str (txt w.1), V.int (w.2 * n)]) := upd_same
          generalize upd H' pn (.tup [V.str (txt w.1), V.int (w.2 * n)]) = H6 at u6 e6 ⊢
          have ej6 := u6 _ _ ej
          have ly : ys.length ≤ j := by
            rw [dj'.length, List.length_map, List.length_map, List.length_take]
            omega
          have jl := (List.getElem?_eq_some_iff.mp hw).1
          refine ⟨_, ej6, small1000 (by omega), ?_, ys ++ [.ref pn], upd_same, ?_⟩
          · intro b o hb
            rw [upd_ne (ne_of_none hb hE)]
            exact u6 _ _ (sj _ _ hb)
          · have tp := TP.upd (o := .lst (ys ++ [.ref pn])) ej6
            rw [take_more hw, List.map_append, List.map_append]
            exact ((dj'.same u6).tp tp pu_wants).app (.cons (.tup (tp _ _ e6) (.cons (.str _) (.cons (.int _) .nil))) .nil)
        rintro H3 ⟨s3, ys, e3, d3⟩
        rw [lx, List.take_length] at d3
        exact kk n rfl c1 c2 (by omega) pE ys H3 (same_none s02 hE) (s02.trans s3) e3 d3
      · refine ⟨_, rfl, iteT (kN (fun m em m1 m2 => ?_) _ s1)⟩
        injection em with em
        omega
    | _ => exact iteT (kN (fun m em => nomatch em) _ s1)
end
end Dear

namespace Dear
open PySem PySem.Spec PyProof.Rows L2
def spCopy : Sp := fun vs H Q _ => ∃ (v : V) (d : D) (ds : List D) (cs fs : List Nat) (zs : List Str) (i : Int) (H0 : Hp), vs = [v] ∧ TgD d ds cs fs zs i ∧ TgAt H0 H v ds cs fs zs i ∧ ∀ v' H', Same H H' → Dt H' v' d → Q v' H'
section
variable {P : Program} {w : World} {K : PySem.W.Frag} {mg : Str → Option Value} {base : Heap}
theorem o__law_copy (T : Txt K mg) : OkF P w K mg base CX0 1 "_law_copy" ["_law_tongue_here"] spCopy := by
  refine T.f__law_copy.ok c__law_copy (fun vs H Q E h => ?_) (fun f cdv A outer s H vs Q E hr h => ?_)
  · obtain ⟨v, d, ds, cs, fs, zs, i, H0, rfl, _⟩ := h
    rfl
  · obtain ⟨v, d, ds, cs, fs, zs, i, H0, rfl, tg, ta, k⟩ := h
    obtain ⟨p, a, b, c, xs, rfl, h1, h2, h3, h4, h5, _⟩ := ta.ex
    refine ⟨_, (pss_one (ps_ret (pe_tup (pa_cons (pe_callTy (call_list_of_k K) (by rfl) T.b_list (by decide +kernel) (pa_cons (pe_ix (ix_tup_k K) (pv 0) pe_int (fun _ _ => rfl)) pa_nil)) (pa_cons (pe_callTy (call_list_of_k K) (by rfl) T.b_list (by decide +kernel) (pa_cons (pe_ix (ix_tup_k K) (pv 0) pe_int (fun _ _ => rfl)) pa_nil)) (pa_cons (pe_callTy (call_list_of_k K) (by rfl) T.b_list (by decide +kernel) (pa_cons (pe_ix (ix_tup_k K) (pv 0) pe_int (fun _ _ => rfl)) pa_nil)) (pa_cons (pe_ix (ix_tup_k K) (pv 0) pe_int (fun _ _ => rfl)) pa_nil))))))), ?_⟩
    refine ⟨_, rfl, _, _, _, _, rfl, rfl, SqT.of h1, rfl, _, _, rfl, .inl (SqL.of h2), fun q1 n1 => ?_⟩
    have s1 := Same.upd (o := .lst xs) n1
    have e1 : (upd H q1 (.lst xs)) q1 = some (.lst xs) := upd_same
    generalize upd H q1 (.lst xs) = H1 at s1 e1
    refine ⟨_, rfl, _, _, _, _, rfl, rfl, SqT.of (s1 _ _ h1), rfl, _, _, rfl, .inl (SqL.of (s1 _ _ h4)), fun q2 n2 => ?_⟩
    have s2 := Same.upd (o := .lst ((fs.map sgn).map V.str)) n2
    have e2 : (upd H1 q2 (.lst ((fs.map sgn).map V.str))) q2 = some (.lst ((fs.map sgn).map V.str)) := upd_same
    generalize upd H1 q2 (.lst ((fs.map sgn).map V.str)) = H2 at s2 e2
    have s12 := s1.trans s2
    refine ⟨_, rfl, _, _, _, _, rfl, rfl, SqT.of (s12 _ _ h1), rfl, _, _, rfl, .inl (SqL.of (s12 _ _ h5)), fun q3 n3 => ?_⟩
    have s3 := Same.upd (o := .lst (zs.map V.str)) n3
    have e3 : (upd H2 q3 (.lst (zs.map V.str))) q3 = some (.lst (zs.map V.str)) := upd_same
    generalize upd H2 q3 (.lst (zs.map V.str)) = H3 at s3 e3
    have s13 := s12.trans s3
    refine ⟨_, rfl, _, _, _, _, rfl, rfl, SqT.of (s13 _ _ h1), rfl, (by show 4 ≤ sizeLine; decide), fun q4 n4 => ?_⟩
    have s4 := Same.upd (o := .tup [.ref q1, .ref q2, .ref q3, .int i]) n4
    refine k _ _ (s13.trans s4) ?_
    rw [tg.eq]
    exact .tup upd_same (.cons (.lst (s4 _ _ (s3 _ _ (s2 _ _ e1))) (h3.same (s13.trans s4))) (.cons (.lst (s4 _ _ (s3 _ _ e2)) (dt_strs _)) (.cons (.lst (s4 _ _ e3) (dt_strs _)) (.cons (.int i) .nil))))
end
end Dear

namespace Dear
open PySem PySem.Spec PyProof.Rows L2
def spTimesC : Sp := fun vs H Q _ => ∃ (p q : Addr) (x y : Int × Int), vs = [.ref p, .ref q] ∧ Fq H p x 40 ∧ Fq H q y 40 ∧
  ∀ (r : Addr) (H' : Hp), H r = none → Same H H' → H' r = some (.tup [.int (lowT (timesT x y) (bots x y)), .int (lowB (timesT x y) (bots x y))]) → Q (.ref r) H'
def tgDear (x : Int × Int) (ds : List D) (fs : List Nat) (zs : List Str) (i : Int) : D := .tup [.lst (ds.map (mulS x)), .lst ((fs.map sgn).map D.str), .lst (zs.map D.str), .int i]
def spDearerC : Sp := fun vs H Q _ => ∃ (v : V) (pf : Addr) (x : Int × Int) (d : D) (ds : List D) (cs fs : List Nat) (zs : List Str) (i : Int) (H0 : Hp), vs = [v, .ref pf] ∧ Fq H pf x 40 ∧ TgD d ds cs fs zs i ∧ TgAt H0 H v ds cs fs zs i ∧ ∀ v' H', Same H H' → Dt H' v' (tgDear x ds fs zs i) → Q v' H'
def GoodW (H : Hp) (u : V) (ws : List (List Nat × Int)) : Prop := ∃ (a : Addr) (xs : List V), u = .ref a ∧ H a = some (.lst xs) ∧ DtAll H xs (ws.map wantD) ∧ WsOk ws ∧ 1 ≤ ws.length ∧ ws.length ≤ 20
theorem GoodW.same {H H' : Hp} {u : V} {ws : List (List Nat × Int)} (h : GoodW H u ws) (s : Same H H') : GoodW H' u ws := by
  obtain ⟨a, xs, h1, h2, h3, h4⟩ := h
  exact ⟨a, xs, h1, s _ _ h2, h3.same s, h4⟩
def NoFac (ws : List (List Nat × Int)) (e : D) : Prop := ∀ n : Int, e = .int n → 1 ≤ n → n ≤ 1000 → 1000000000 < maxC ws * n
def spRefused59 : Sp := fun vs H Q _ => ∃ (v u th : V) (y : Int) (e : D), vs = [v, u, th, .int y] ∧ Dt H th e ∧ Ok e ∧ ((y = 0 ∧ ∃ d, Dt H v d ∧ Ok d ∧ tgBad d = none ∧ isPrice e = false) ∨ (y = 1 ∧ ∃ ws, GoodW H u ws ∧ NoFac ws e)) ∧ ∀ H', Same H H' → Q (.bl true) H'
section
variable {P : Program} {w : World} {K : PySem.W.Frag} {mg : Str → Option Value} {base : Heap}
theorem o__law_times (T : Txt K mg) : OkF P w K mg base CX0 2 "_law_times" ["_law_one", "_law_other"] spTimesC := by
  have o__law_low := o__law_low (P := P) (w := w) (base := base) T
  refine T.f__law_times.ok c__law_times (fun vs H Q E h => ?_) (fun f cdv A outer s H vs Q E hr h => ?_)
  · obtain ⟨p, q, x, y, rfl, _⟩ := h
    rfl
  · obtain ⟨p, q, x, y, rfl, fx, fy, k⟩ := h
    refine ⟨_, (pss_one (ps_ret (pe_c o__law_low hr (pa_cons (pe_op op_mul (pe_ix (ix_tup_k K) (pv 0) pe_int (fun _ _ => rfl)) (pe_ix (ix_tup_k K) (pv 1) pe_int (fun _ _ => rfl))) (pa_cons (pe_op op_mul (pe_ix (ix_tup_k K) (pv 0) pe_int (fun _ _ => rfl)) (pe_ix (ix_tup_k K) (pv 1) pe_int (fun _ _ => rfl))) pa_nil))))), ?_⟩
    have ht := fx.t
    have hb := fx.b
    refine ⟨_, rfl, _, _, _, _, rfl, rfl, SqT.of fx.at_, rfl, _, rfl, _, _, _, _, rfl, rfl, SqT.of fy.at_, rfl, _, _, rfl, rfl, .inl ⟨by omega, by omega⟩, ?_⟩
    refine ⟨_, rfl, _, _, _, _, rfl, rfl, SqT.of fx.at_, rfl, _, rfl, _, _, _, _, rfl, rfl, SqT.of fy.at_, rfl, _, _, rfl, rfl, .inl ⟨by omega, by omega⟩, ?_⟩
    exact ⟨_, _, rfl, Int.mul_pos fx.pos fy.pos, log_small (n := 40 + 40) (by decide) (wide_lt fx.b fy.b) (by decide), k⟩
theorem o__law_dearer (T : Txt K mg) : OkF P w K mg base CX0 3 "_law_dearer" ["_law_tongue_here", "_law_factor"] spDearerC := by
  have o__law_times := o__law_times (P := P) (w := w) (base := base) T
  refine T.f__law_dearer.ok c__law_dearer (fun vs H Q E h => ?_) (fun f cdv A outer s H vs Q E hr h => ?_)
  · obtain ⟨v, pf, x, d, ds, cs, fs, zs, i, H0, rfl, _⟩ := h
    rfl
  · obtain ⟨v, pf, x, d, ds, cs, fs, zs, i, H0, rfl, fx, td, ta, k⟩ := h
    refine ⟨_, (pss_cons (ps_set (i := 2) c__law_dearer.nd rfl (Or.inl rfl) (pe_lst pa_nil))
(pss_cons (ps_for PassesOwn.never rfl (pi_list_k K (pe_ix (ix_tup_k K) (pv 0) pe_int (fun _ _ => rfl))) (pg_tup_k K (n := 3) rfl (pgs_cons (pg_name (i := 3) c__law_dearer.nd rfl (Or.inl rfl)) (pgs_cons (pg_name (i := 4) c__law_dearer.nd rfl (Or.inl rfl)) (pgs_cons (pg_name (i := 5) c__law_dearer.nd rfl (Or.inl rfl)) pgs_nil))))
(C8.pss_cut (ps_if (pt_cmpR op_notN (pv 5) pe_non (nomark _))
(pss_one (ps_set (i := 5) c__law_dearer.nd rfl (Or.inl rfl) (pe_c o__law_times hr (pa_cons (pv 5) (pa_cons (pv 1) pa_nil)))))
pss_nil)
(pss_one (ps_expr (pe_bm PySem.F.plainAttrs_list PySem.F.slot_list_append PySem.F.type_list_append mt_append (pv 2) (pa_cons (pe_tup (pa_cons (pv 3) (pa_cons (pe_c o__law_times hr (pa_cons (pv 4) (pa_cons (pv 1) pa_nil))) (pa_cons (pv 5) pa_nil)))) pa_nil))))))
(pss_one (ps_ret (pe_tup (pa_cons (pv 2) (pa_cons (pe_ix (ix_tup_k K) (pv 0) pe_int (fun _ _ => rfl)) (pa_cons (pe_ix (ix_tup_k K) (pv 0) pe_int (fun _ _ => rfl)) (pa_cons (pe_ix (ix_tup_k K) (pv 0) pe_int (fun _ _ => rfl)) pa_nil))))))))), ?_⟩
    obtain ⟨p, a, bb, cc, xs, rfl, h1, h2, h3, h4, h5, _⟩ := ta.ex
    have lx : xs.length = cs.length := by rw [h3.length, td.sg.facts.2.2.2.2.1]
    have l6 := td.l6
    refine ⟨(by show 0 ≤ sizeLine; decide), fun pR hR => ?_⟩
    have u3 := Same.upd (o := .lst []) hR
    have e3 : (upd H pR (.lst [])) pR = some (.lst []) := upd_same
    generalize upd H pR (.lst []) = H3 at u3 e3 ⊢
    refine ⟨_, rfl, _, _, _, _, rfl, rfl, SqT.of (u3 _ _ h1), rfl, a, rfl, ⟨_, SqL.of (u3 _ _ h2)⟩, for_list (K := K) (a := a) (xs := xs) (fun j σ H' => Same H H' ∧ ∃ (ys : List V) (v3 v4 v5 : Option V), σ = [some (.ref p), some (.ref pf), some (.ref pR), v3, v4, v5] ∧ H' pR = some (.lst ys) ∧ DtAll H' ys ((ds.take j).map (mulS x)))
      ⟨u3, [], _, _, _, rfl, e3, .nil⟩ (fun j σ H' _ h => SqL.of (h.1 _ _ h2)) ?_ ?_⟩
    · rintro j y σ H4 hx ⟨s4, ys, v3, v4, v5, rfl, hy, hd⟩
      obtain ⟨dj, hdj, dx⟩ := h3.get hx
      obtain ⟨c, hc, sd⟩ := td.sg.get hdj
      obtain ⟨q, pa, t1, b1, l, lv, rfl, hq, rfl, hpa, dl, pr, ll⟩ := sign_at (dx.same s4) sd
      have jl := (List.getElem?_eq_some_iff.mp hx).1
      have ly : ys.length = j := by
        have e1 := hd.length
        rw [List.length_map, List.length_take, td.sg.facts.2.2.2.2.1] at e1
        omega
      have puy : PuAll ((ds.take j).map (mulS x)) := pu_mulS (td.sg.take j)
      have tkm : (ds.take (j + 1)).map (mulS x) = (ds.take j).map (mulS x) ++ [mulS x (.tup [.str (sgn c), .tup [.int t1, .int b1], l])] := by
        rw [take_more hdj, List.map_append]
        rfl
      refine ⟨q, _, rfl, SqT.of hq, rfl, _, _, rfl, _, _, rfl, _, _, rfl, rfl, ?_⟩
      refine ⟨fun σ' H' => Same H4 H' ∧ ∃ lv' : V, σ' = [some (.ref p), some (.ref pf), some (.ref pR), some (.str (sgn c)), some (.ref pa), some lv'] ∧ Dt H' lv' (mulP x l), ?_, ?_⟩
      · rcases last_at dl ll with ⟨rfl, rfl⟩ | ⟨ql, t2, b2, rfl, rfl, hql, pr2⟩
        · exact ⟨_, rfl, rfl, _, rfl, iteF ⟨Same.refl _, _, rfl, .non⟩⟩
        · refine ⟨_, rfl, rfl, _, rfl, iteT ⟨_, rfl, _, rfl, ql, pf, (t2, b2), x, rfl, ⟨hql, (frD_price pr2).1, (frD_price pr2).2.1, (frD_price pr2).2.2⟩, fx.same s4, fun r H5 hr5 s5 e5 => ?_⟩⟩
          exact ⟨s5, _, rfl, .tup e5 (.cons (.int _) (.cons (.int _) .nil))⟩
      rintro σ' H5 ⟨s5, lv', rfl, dl'⟩
      have hy5 := s5 _ _ hy
      refine ⟨_, rfl, .inl ⟨rfl, _, SqL.of hy5⟩, _, rfl, _, rfl, _, rfl, pa, pf, (t1, b1), x, rfl, ⟨s5 _ _ hpa, (frD_price pr).1, (frD_price pr).2.1, (frD_price pr).2.2⟩, fx.same (s4.trans s5), fun r H6 hr6 s6 e6 => ?_⟩
      refine ⟨_, rfl, (by show 3 ≤ sizeLine; decide), fun pn hpn => ?_⟩
      have u7 := Same.upd (o := .tup [V.str (sgn c), V.ref r, lv']) hpn
      have e7 : (upd H6 pn (.tup [V.str (sgn c), V.ref r, lv'])) pn = some (.tup [V.str (sgn c), V.ref r, lv']) := upd_same
      generalize upd H6 pn (.tup [V.str (sgn c), V.ref r, lv']) = H7 at u7 e7 ⊢
      have s57 := s6.trans u7
      have s47 := s5.trans s57
      have hy7 := s47 _ _ hy
      have pul : Pu (mulP x l) := by
        rcases last_at dl ll with ⟨_, rfl⟩ | ⟨_, t2, b2, _, rfl, _, _⟩
        · trivial
        · exact ⟨trivial, trivial, trivial⟩
      refine ⟨pR, _, _, rfl, rfl, hy7, small1000 (by omega), ?_, ys ++ [.ref pn], _, _, _, rfl, upd_same, ?_⟩
      · intro b' o hb
        rw [upd_ne (ne_of_none hb hR)]
        exact s47 _ _ (s4 _ _ hb)
      · have tp := TP.upd (o := .lst (ys ++ [.ref pn])) hy7
        rw [tkm]
        refine ((hd.same s47).tp tp puy).app (.cons ?_ .nil)
        exact .tup (tp _ _ e7) (.cons (.str _) (.cons (.tup (tp _ _ (u7 _ _ e6)) (.cons (.int _) (.cons (.int _) .nil))) (.cons ((dl'.same s57).tp tp pul) .nil)))
    rintro σ H4 ⟨s4, ys, v3, v4, v5, rfl, hy, hd⟩
    rw [lx, List.take_of_length_le (by rw [td.sg.facts.2.2.2.2.1]; exact Nat.le_refl _)] at hd
    refine ⟨_, rfl, _, rfl, _, _, _, _, rfl, rfl, SqT.of (s4 _ _ h1), rfl, _, rfl, _, _, _, _, rfl, rfl, SqT.of (s4 _ _ h1), rfl, _, rfl, _, _, _, _, rfl, rfl, SqT.of (s4 _ _ h1), rfl, (by show 4 ≤ sizeLine; decide), fun q3 hq3 => ?_⟩
    have w3 := Same.upd (o := .tup [V.ref pR, .ref bb, .ref cc, .int i]) hq3
    have s5 := s4.trans w3
    exact k (.ref q3) _ s5 (.tup upd_same (.cons (.lst (w3 _ _ hy) (hd.same w3)) (.cons (.lst (s5 _ _ h4) (dt_strs _)) (.cons (.lst (s5 _ _ h5) (dt_strs _)) (.cons (.int i) .nil)))))
theorem o__law_refused (T : Txt K mg) : OkF P w K mg base CX0 8 "_law_refused" ["_law_tongue_here", "_law_wants_here", "_law_thing", "_law_way"] spRefused59 := by
  have o_dearer := o_dearer (P := P) (w := w) (base := base) T
  have o_more_often := o_more_often (P := P) (w := w) (base := base) T
  have o__law_is_no_turn := o__law_is_no_turn (P := P) (w := w) (base := base) T
  refine T.f__law_refused.ok c__law_refused (fun vs H Q E h => ?_) (fun f cdv A outer s H vs Q E hr h => ?_)
  · obtain ⟨v, u, th, y, e, rfl, _⟩ := h
    rfl
  · obtain ⟨v, u, th, y, e, rfl, hth, oke, ways, k⟩ := h
    refine ⟨_, (pss_cons (ps_set (i := 4) c__law_refused.nd rfl (Or.inl rfl) pe_non)
(pss_cons (ps_try_kept (i := 5) (j := 4) rfl rfl rfl c__law_refused.nd rfl rfl (by decide) rfl rfl ⟨rfl, by decide, Or.inl T.C_DearError⟩ takes0 (fun W pn xe tk _ =>
(pss_one (ps_if (pt_cmpR op_eq (pv 3) pe_int (nomark _))
(pss_one (ps_expr (pe_cx o_dearer hr tk (pa_cons (pv 0) (pa_cons (pv 2) pa_nil)))))
(pss_one (ps_expr (pe_cx o_more_often hr tk (pa_cons (pv 1) (pa_cons (pv 2) pa_nil)))))))))
(pss_one (ps_ret (pe_c o__law_is_no_turn hr (pa_cons (pv 4) pa_nil)))))), ?_⟩
    rcases ways with ⟨rfl, d, hd, okd, td, ne⟩ | ⟨rfl, ws, ⟨a, xs, rfl, ha, hall, wo, l1, l20⟩, no⟩
    · refine ⟨_, rfl, rfl, _, rfl, iteT ⟨_, rfl, _, rfl, v, th, d, e, rfl, hd, okd, hth, oke, fun m hm => (by rw [td] at hm; cases hm), fun _ _ H1 s1 => ?_, fun _ z => (by rw [ne] at z; cases z)⟩⟩
      refine ⟨true, T.m_NoTurn, fun _ b hb => ?_, fun q => nomatch q⟩
      exact ⟨_, rfl, b, rfl, upd_same, fun H' s' => k _ ((s1.trans (Same.upd hb)).trans s')⟩
    · have gd := wants_good wo l1 l20
      refine ⟨_, rfl, rfl, _, rfl, iteF ⟨_, rfl, _, rfl, .ref a, th, _, e, rfl, .lst ha hall, (wants_facts wo.all).1, hth, oke, fun m hm => (by rw [gd] at hm; cases hm), fun _ => ⟨a, xs, ws, rfl, ha, hall, wo.all, l1, l20, fun _ H1 s1 => ?_, fun n e1 n1 n2 n3 => ?_⟩⟩⟩
      · refine ⟨true, T.m_NoTurn, fun _ b hb => ?_, fun q => nomatch q⟩
        exact ⟨_, rfl, b, rfl, upd_same, fun H' s' => k _ ((s1.trans (Same.upd hb)).trans s')⟩
      · have := no n e1 n1 n2
        omega
end
end Dear

namespace Dear
open PySem PySem.Spec PyProof.Rows L2
theorem bad_longest {d : D} {ds : List D} {cs fs : List Nat} {zs : List Str} {i : Int} (t : TgD d ds cs fs zs i) {j : Int} (h : ¬ (1 ≤ j ∧ j ≤ 8)) : tgBad (.tup [.lst ds, .lst ((fs.map sgn).map D.str), .lst (zs.map D.str), .int j]) = some (.str "longest") := by
  have l := t.look
  rw [t.eq] at l
  have l : (areSigns (.lst ds) && unlike 1 (heads (.lst ds)) (.lst ((fs.map sgn).map D.str)) && unlike 2 (heads (.lst ds)) (.lst (zs.map D.str)) && isLong (.int i)) = true := l
  simp only [Bool.and_eq_true] at l
  obtain ⟨⟨⟨h1, h2⟩, h3⟩, h4⟩ := l
  show (if areSigns (.lst ds) = false then some (V.str "signs") else if unlike 1 (heads (.lst ds)) _ = false then some (.str "firsts") else if unlike 2 (heads (.lst ds)) _ = false then some (.str "pairs") else if isLong (.int j) = false then some (.str "longest") else none) = _
  have h5 : isLong (.int j) = false := decide_eq_false h
  rw [h1, h2, h3, h5]
  rfl
theorem bad_signs {x : D} {r : List D} {f p l : D} (h : isSign x = false) : tgBad (.tup [.lst (x :: r), f, p, l]) = some (.str "signs") := by
  have h1 : areSigns (.lst (x :: r)) = false := by
    show (decide _ && (x :: r).all isSign && _) = false
    rw [List.all_cons, h, Bool.false_and, Bool.and_false, Bool.false_and]
  show (if areSigns (.lst (x :: r)) = false then some (V.str "signs") else _) = _
  rw [h1]
  rfl
theorem mk_from {K : PySem.W.Frag} {l : Addr} {σ : L2.St} {H : Hp} {t : TE} {ds : List D} {i : Int} {n : Nat} (h : Mk l σ t H (.lst ds)) {o : HO} (hl : H l = some o) (hi : i = (n : Nat) := by rfl) : Mk l σ (tSl (rSlL K) t (tPart (tC (.int i))) tNoPart) H (.lst (ds.drop n)) := fun H1 s Q q => by
  subst hi
  refine h H1 s _ fun v H2 s2 d2 => ?_
  obtain ⟨a, xs, rfl, ha, hall⟩ := d2.lstAt
  refine ⟨_, rfl, a, xs, rfl, SqL.of (Off.sub _ _ _ _ ha), fun p hp => ?_⟩
  have ne : p ≠ l := fun e => by
    subst e
    rw [s2 _ _ (s _ _ hl)] at hp
    cases hp
  rw [cutV_from]
  exact q (.ref p) _ (s2.trans (Same.upd hp)) (.lst (by rw [off_ne ne]; exact upd_same) ((hall.drop n).same (sOff (Same.upd hp))))
theorem mk_cat' {l : Addr} {σ : L2.St} {H : Hp} {t u : TE} {ds es : List D} (h1 : Mk l σ t H (.lst ds)) (h2 : Mk l σ u H (.lst es)) {o : HO} (hl : H l = some o) (hz : ds.length + es.length ≤ 1000) : Mk l σ (tOp rCat t u) H (.lst (ds ++ es)) := mk_cat h1 h2 hl (Nat.ble_eq.mpr hz)
theorem s_forL {K : PySem.W.Frag} {tl : TE} {g : TG} {tb : TS} {D : Ends} {σ : L2.St} {H : Hp} (h : tl σ H fun x H1 => ∃ a, x = .ref a ∧ (∃ xs, SqL K H1 a xs) ∧ tFor (fun _ H2 R => R (Itl K a) H2) g tb D σ H1) : tFor (iList K tl) g tb D σ H := h
theorem MkA.go {l : Addr} {σ : L2.St} {H : Hp} {t : TA} {ds : List D} (h : MkA l σ t H ds) {Q : List V → Hp → Prop} (q : ∀ vs H2, Same H H2 → DtAll (Off l H2) vs ds → Q vs H2) : t σ H Q := h H (Same.refl H) Q q
theorem off_new {H H1 : Hp} {l : Addr} (s : Same H H1) (hl : H l = none) : Same H (Off l H1) := fun b o e => by
  rw [off_ne (ne_of_none e hl)]
  exact s _ _ e
def spNoTongue59 : Sp := fun vs H Q _ => ∃ (v f : V) (d e : D) (ds : List D) (cs fs : List Nat) (zs : List Str) (i : Int) (H0 : Hp), vs = [v, f] ∧ Dt H f e ∧ Ok e ∧ TgD d ds cs fs zs i ∧ TgAt H0 H v ds cs fs zs i ∧ ∀ (q : Addr) (H' : Hp), Same H H' → H' q = some (.lst [.str "longest", .str "signs"]) → Q (.ref q) H'
def spNoWants59 : Sp := fun vs H Q _ => ∃ (u f : V) (e : D) (ws : List (List Nat × Int)), vs = [u, f] ∧ Dt H f e ∧ Ok e ∧ GoodW H u ws ∧ ∀ (q : Addr) (H' : Hp), Same H H' → H' q = some (.lst [.non, .int 0]) → Q (.ref q) H'
def spMuch59 : Sp := fun vs H Q _ => ∃ (u : V) (ws : List (List Nat × Int)), vs = [u] ∧ GoodW H u ws ∧ ∀ (n : Int) (H' : Hp), Same H H' → NoFac ws (.int n) → 0 ≤ n → n ≤ 1000000001 → Q (.int n) H'
section
variable {P : Program} {w : World} {K : PySem.W.Frag} {mg : Str → Option Value} {base : Heap}
theorem o__law_no_tongue (T : Txt K mg) : OkF P w K mg base CX0 8 "_law_no_tongue" ["_law_tongue_here", "_law_factor"] spNoTongue59 := by
  have o_dearer := o_dearer (P := P) (w := w) (base := base) T
  refine T.f__law_no_tongue.ok c__law_no_tongue (fun vs H Q E h => ?_) (fun f cdv A outer s H vs Q E hr h => ?_)
  · obtain ⟨v, f, d, e, ds, cs, fs, zs, i, H0, rfl, _⟩ := h
    rfl
  · obtain ⟨v, fv, d, e, ds, cs, fs, zs, i, H0, rfl, hf, oke, td, ta, k⟩ := h
    refine ⟨_, (pss_cons (ps_asg (pv 0) (pg_tup_k K (n := 4) rfl (pgs_cons (pg_name (i := 2) c__law_no_tongue.nd rfl (Or.inl rfl)) (pgs_cons (pg_name (i := 3) c__law_no_tongue.nd rfl (Or.inl rfl)) (pgs_cons (pg_name (i := 4) c__law_no_tongue.nd rfl (Or.inl rfl)) (pgs_cons (pg_name (i := 5) c__law_no_tongue.nd rfl (Or.inl rfl)) pgs_nil))))))
(pss_cons (ps_set (i := 6) c__law_no_tongue.nd rfl (Or.inl rfl) (pe_lst pa_nil))
(pss_cons (ps_for PassesOwn.never rfl (pi_list_k K (pe_lst (pa_cons (pe_tup (pa_cons (pv 2) (pa_cons (pv 3) (pa_cons (pv 4) (pa_cons pe_int pa_nil))))) (pa_cons (pe_tup (pa_cons (pe_op op_cat (pe_lst (pa_cons (pe_tup (pa_cons (pe_ix (ix_tup_k K) (pe_ix (ix_list_k K) (pv 2) pe_int (fun _ _ => rfl)) pe_int (fun _ _ => rfl)) (pa_cons (pe_tup (pa_cons pe_int (pa_cons pe_int pa_nil))) (pa_cons pe_non pa_nil)))) pa_nil)) (pe_slice (sl_list_k K) (pv 2) (po_some pe_int) po_none)) (pa_cons (pv 3) (pa_cons (pv 4) (pa_cons (pv 5) pa_nil))))) pa_nil)))) (pg_name (i := 7) c__law_no_tongue.nd rfl (Or.inl rfl))
(pss_one (ps_tryA (i := 8) rfl rfl c__law_no_tongue.nd rfl rfl ⟨rfl, by decide, Or.inl T.C_NoTongue⟩ takes0 (fun W pn xe tk _ =>
(pss_one (ps_expr (pe_cx o_dearer hr tk (pa_cons (pv 7) (pa_cons (pv 1) pa_nil))))))
(fun a oe cls d pn hz hf =>
(pss_one (ps_expr (pe_bm_k K PySem.F.plainAttrs_list PySem.F.slot_list_append PySem.F.type_list_append mt_append (pv 6) (pa_cons (pe_xf (XfC.of T.X_NoTongue.c) T.X_NoTongue.n hz hf (pv 8)) pa_nil))))))))
(pss_one (ps_ret (pv 6)))))), ?_⟩
    obtain ⟨p, a, bb, cc, xs, rfl, h1, h2, h3, h4, h5, _⟩ := ta.ex
    have lc : ds.length = cs.length := td.sg.facts.2.2.2.2.1
    have l2 := td.l2
    have l6 := td.l6
    refine ⟨_, rfl, p, _, rfl, SqT.of h1, rfl, _, _, rfl, _, _, rfl, _, _, rfl, _, _, rfl, rfl, ?_⟩
    refine ⟨(by show 0 ≤ sizeLine; decide), fun pF hF => ?_⟩
    have u3 := Same.upd (o := .lst []) hF
    have e3 : (upd H pF (.lst [])) pF = some (.lst []) := upd_same
    generalize upd H pF (.lst []) = H3 at u3 e3 ⊢
    have sO := off_new u3 hF
    have dS : Dt (Off pF H3) (.ref a) (.lst ds) := .lst (sO _ _ h2) (h3.same sO)
    have dF : Dt (Off pF H3) (.ref bb) (.lst ((fs.map sgn).map D.str)) := .lst (sO _ _ h4) (dt_strs _)
    have dP : Dt (Off pF H3) (.ref cc) (.lst (zs.map D.str)) := .lst (sO _ _ h5) (dt_strs _)
    match ds, lc with
    | [], lc => exact absurd lc (by simp; omega)
    | d0 :: ds', lc =>
    have ld : ds'.length + 1 = cs.length := lc
    obtain ⟨c0, hc0, sd0⟩ := td.sg.get (i := 0) (d := d0) rfl
    obtain ⟨t0, b0, l0, rfl, pr0, ll0⟩ := sd0.ex
    have i8 : Mk pF [some (.ref p), some fv, some (.ref a), some (.ref bb), some (.ref cc), some (.int i), some (.ref pF), none, none] (tOp (rIxT K) (tOp (rIxL K) (tVar 2) (tC (.int 0))) (tC (.int 0))) H3 (.str (sgn c0)) := fun H9 s9 Q9 q9 => by
      obtain ⟨x0, hx0, dx0⟩ := h3.atN (i := 0) rfl
      obtain ⟨t9, ys, rfl, ht, hy⟩ := dx0.tupAt
      cases hy with
      | cons g1 g2 =>
        cases g1
        exact ⟨_, rfl, _, _, _, _, rfl, rfl, SqL.of (s9 _ _ (u3 _ _ h2)), atI_nat hx0, _, _, _, _, rfl, rfl, SqT.of (s9 _ _ (u3 _ _ ht)), atI_nat rfl, q9 _ H9 (Same.refl _) (.str _)⟩
    dsimp only [gName]
    refine s_seq (s_forL (s_lst ?_))
    refine (MkA.go (l := pF) (ds := [.tup [.lst (.tup [.str (sgn c0), .tup [.int t0, .int b0], l0] :: ds'), .lst ((fs.map sgn).map D.str), .lst (zs.map D.str), .int 9], .tup [.lst ([.tup [.str (sgn c0), .tup [.int 0, .int 1], .non]] ++ (.tup [.str (sgn c0), .tup [.int t0, .int b0], l0] :: ds').drop 1), .lst ((fs.map sgn).map D.str), .lst (zs.map D.str), .int i]])
      (mka_cons (mk_tup (mka_cons (mk_var (i := 2) rfl dS) (mka_cons (mk_var (i := 3) rfl dF) (mka_cons (mk_var (i := 4) rfl dP) (mka_cons (mk_c (.int _)) mka_nil)))) e3)
        (mka_cons (mk_tup (mka_cons (mk_cat' (mk_lst (mka_cons (mk_tup (mka_cons i8 (mka_cons (mk_tup (mka_cons (mk_c (.int _)) (mka_cons (mk_c (.int _)) mka_nil)) e3) (mka_cons (mk_c .non) mka_nil))) e3) mka_nil) e3) (mk_from (n := 1) (mk_var (i := 2) rfl dS) e3) e3 (by show 1 + ds'.length ≤ 1000; omega)) (mka_cons (mk_var (i := 3) rfl dF) (mka_cons (mk_var (i := 4) rfl dP) (mka_cons (mk_var (i := 5) rfl (.int _)) mka_nil)))) e3) mka_nil)) fun vs H4 s4 d4 => ⟨sz_lit (by rw [d4.length]; exact Nat.le_of_ble_eq_true rfl), fun p4 hp4 => ?_⟩)
    have u4 := Same.upd (o := .lst vs) hp4
    have e4 : (upd H4 p4 (.lst vs)) p4 = some (.lst vs) := upd_same
    generalize upd H4 p4 (.lst vs) = H5 at u4 e4 ⊢
    have s35 := s4.trans u4
    have e5 := s35 _ _ e3
    have d5 := d4.same (sOff (l := pF) u4)
    have n4 : p4 ≠ pF := fun e => by
      subst e
      rw [s4 _ _ e3] at hp4
      cases hp4
    have lv : vs.length = 2 := d4.length
    have hv : ∀ (j : Nat) (x : V), vs[j]? = some x → ∃ (dj : D) (z : Str), Dt (Off pF H5) x dj ∧ Ok dj ∧ tgBad dj = some (.str z) ∧ ([V.str "longest", .str "signs"] : List V)[j]? = some (.str z) := fun j x hx => by
      obtain ⟨dj, hdj, dx⟩ := d5.get hx
      have okT : Ok d := td.ok
      rw [td.eq] at okT
      obtain ⟨⟨o1, o2⟩, o3, o4, o5, _⟩ := okT
      match j, hdj with
      | 0, hdj =>
        injection hdj with hdj
        subst hdj
        exact ⟨_, "longest", dx, ⟨⟨o1, o2⟩, o3, o4, okI, trivial⟩, bad_longest td (by omega), rfl⟩
      | 1, hdj =>
        injection hdj with hdj
        subst hdj
        exact ⟨_, "signs", dx, ⟨⟨⟨o1.1, ⟨okI, okI, trivial⟩, trivial, trivial⟩, o2⟩, o3, o4, o5, trivial⟩, bad_signs (by show (_ && false && _) = false; rw [Bool.and_false, Bool.false_and]), rfl⟩
      | j + 2, hdj => exact absurd hdj (by simp)
    refine ⟨p4, rfl, ⟨_, SqL.of e4⟩, for_list (K := K) (a := p4) (xs := vs) (fun j σ H' => But pF H5 H' ∧ ∃ (v7 : Option V), σ = [some (.ref p), some fv, some (.ref a), some (.ref bb), some (.ref cc), some (.int i), some (.ref pF), v7, none] ∧ H' pF = some (.lst (([V.str "longest", .str "signs"] : List V).take j)))
      ⟨But.refl _ _, _, rfl, e5⟩ (fun j σ H' _ h => SqL.of (h.1 _ _ e4 n4)) ?_ ?_⟩
    · rintro j x σ H6 hx ⟨b6, v7, rfl, hF6⟩
      obtain ⟨dj, z, dz, okz, bz, hz⟩ := hv j x hx
      have jl := (List.getElem?_eq_some_iff.mp hx).1
      have s06 : Same H H6 := But.same0 (u3.trans s35) hF b6
      refine ⟨_, rfl, _, rfl, x, fv, dj, e, rfl, (dz.same b6.off).same (Off.sub _ _), okz, hf.same s06, oke, fun u hu dd H7 s7 hdd hx7 => ?_, fun q => (by rw [bz] at q; cases q), fun q => (by rw [bz] at q; cases q)⟩
      rw [bz] at hu
      injection hu with hu
      subst hu
      have lk : List.lookup ("part" : Str) [(("part" : Str), V.str z)] = some (V.str z) := by simp [List.lookup]
      refine ⟨true, T.e_NoTongue, fun _ b hb => ?_, fun q => nomatch q⟩
      have u8 := Same.upd (o := .xd [("part", V.str z)]) hb
      refine ⟨_, rfl, .inl ⟨rfl, _, SqL.of (s7 _ _ hF6)⟩, _, rfl, rfl, rfl, dd, _, _, rfl, hx7, lk, pF, _, _, rfl, rfl, s7 _ _ hF6, small1000 (by rw [List.length_take]; show min j 2 ≤ _; omega), ?_, some x, rfl, ?_⟩
      · exact (b6.trans (.of s7)).trans But.upd
      · rw [take_more hz]
        exact upd_same
    · rintro σ H6 ⟨b6, v7, rfl, hF6⟩
      rw [lv] at hF6
      exact ⟨_, rfl, k pF H6 (But.same0 (u3.trans s35) hF b6) hF6⟩
end
end Dear

namespace Dear
open PySem PySem.Spec PyProof.Rows L2
theorem bad_head' {x : D} {r : List D} (h : isWant x = false) (hl : r.length < 20) : wantsBad (.lst (x :: r)) = some (.int 0) := by
  show (if 1 ≤ (x :: r).length ∧ (x :: r).length ≤ 20 then badAt 0 [] (x :: r) else some .non) = _
  rw [if_pos ⟨by simp, by rw [List.length_cons]; omega⟩, bad_step, h]
  rfl
def spCounts59 : Sp := fun vs H Q _ => ∃ (v u : V) (n : Int) (ws : List (List Nat × Int)), vs = [v, u, .int n] ∧ GoodW H u ws ∧ 1 ≤ n ∧ n ≤ 1000 ∧ ∀ H', Same H H' → Q (.bl true) H'
theorem want_get {H : Hp} {xs : List V} {ws : List (List Nat × Int)} (hall : DtAll H xs (ws.map wantD)) {j : Nat} {x : V} (hx : xs[j]? = some x) : ∃ w, ws[j]? = some w ∧ ∃ t : Addr, x = .ref t ∧ H t = some (.tup [.str (txt w.1), .int w.2]) := by
  obtain ⟨dj, hdj, dx⟩ := hall.get hx
  rw [List.getElem?_map] at hdj
  obtain ⟨w, hw, rfl⟩ : ∃ w, ws[j]? = some w ∧ dj = wantD w := by
    cases q9 : ws[j]? with
    | none => rw [q9] at hdj; cases hdj
    | some c => rw [q9] at hdj; exact ⟨c, rfl, (Option.some.inj hdj).symm⟩
  exact ⟨w, hw, want_at dx⟩
theorem more_good {W N : Addr} {H : Hp} {Q : VK} {E : XK} {a : Addr} {xs : List V} {ws : List (List Nat × Int)} {n : Int} (ha : H a = some (.lst xs)) (hall : DtAll H xs (ws.map wantD)) (wo : WsOk ws) (l1 : 1 ≤ ws.length) (l20 : ws.length ≤ 20) (n1 : 1 ≤ n) (n2 : n ≤ 1000) (n3 : maxC ws * n ≤ 1000000000)
    (k : ∀ (q : Addr) (ys : List V) (H' : Hp), H q = none → Same H H' → H' q = some (.lst ys) → DtAll H' ys ((ws.map (mulW n)).map wantD) → Q (.ref q) H') : spMore W N [.ref a, .int n] H Q E := by
  have gd := wants_good wo l1 l20
  refine ⟨.ref a, .int n, _, .int n, rfl, .lst ha hall, (wants_facts wo.all).1, .int n, lt300 (Nat.lt_of_lt_of_le (show n.natAbs < 1001 by omega) (by decide)), fun m hm => (by rw [gd] at hm; cases hm), fun _ => ⟨a, xs, ws, rfl, ha, hall, wo.all, l1, l20, fun h => ?_, fun m e m1 m2 m3 => ?_⟩⟩
  · have := h n rfl n1 n2
    omega
  · injection e with e
    subst e
    exact k
section
variable {P : Program} {w : World} {K : PySem.W.Frag} {mg : Str → Option Value} {base : Heap}
theorem o__law_no_wants (T : Txt K mg) : OkF P w K mg base CX0 8 "_law_no_wants" ["_law_wants_here", "_law_factor"] spNoWants59 := by
  have o_more_often := o_more_often (P := P) (w := w) (base := base) T
  refine T.f__law_no_wants.ok c__law_no_wants (fun vs H Q E h => ?_) (fun f cdv A outer s H vs Q E hr h => ?_)
  · obtain ⟨u, f, e, ws, rfl, _⟩ := h
    rfl
  · obtain ⟨u, fv, e, ws, rfl, hf, oke, ⟨a, xs, rfl, ha, hall, wo, l1, l20⟩, k⟩ := h
    refine ⟨_, (pss_cons (ps_set (i := 2) c__law_no_wants.nd rfl (Or.inl rfl) (pe_lst pa_nil))
(pss_cons (ps_for PassesOwn.never rfl (pi_list_k K (pe_lst (pa_cons (pe_lst pa_nil) (pa_cons (pe_op op_cat (pe_lst (pa_cons (pe_tup (pa_cons (pe_ix (ix_tup_k K) (pe_ix (ix_list_k K) (pv 0) pe_int (fun _ _ => rfl)) pe_int (fun _ _ => rfl)) (pa_cons pe_bl pa_nil))) pa_nil)) (pe_slice (sl_list_k K) (pv 0) (po_some pe_int) po_none)) pa_nil)))) (pg_name (i := 3) c__law_no_wants.nd rfl (Or.inl rfl))
(pss_one (ps_tryA (i := 4) rfl rfl c__law_no_wants.nd rfl rfl ⟨rfl, by decide, Or.inl T.C_NoWants⟩ takes0 (fun W pn xe tk _ =>
(pss_one (ps_expr (pe_cx o_more_often hr tk (pa_cons (pv 3) (pa_cons (pv 1) pa_nil))))))
(fun a oe cls d pn hz hf =>
(pss_one (ps_expr (pe_bm_k K PySem.F.plainAttrs_list PySem.F.slot_list_append PySem.F.type_list_append mt_append (pv 2) (pa_cons (pe_xf (XfC.of T.X_NoWants.c) T.X_NoWants.n hz hf (pv 4)) pa_nil))))))))
(pss_one (ps_ret (pv 2))))), ?_⟩
    refine ⟨(by show 0 ≤ sizeLine; decide), fun pF hF => ?_⟩
    have u3 := Same.upd (o := .lst []) hF
    have e3 : (upd H pF (.lst [])) pF = some (.lst []) := upd_same
    generalize upd H pF (.lst []) = H3 at u3 e3 ⊢
    have sO := off_new u3 hF
    have okW := (wants_facts wo.all).1
    have dS : Dt (Off pF H3) (.ref a) (.lst (ws.map wantD)) := .lst (sO _ _ ha) (hall.same sO)
    match ws, l1 with
    | w0 :: ws', _ =>
    rw [List.length_cons] at l20
    obtain ⟨x0, hx0, dx0⟩ := hall.atN (i := 0) (d := wantD w0) rfl
    obtain ⟨t, rfl, ht⟩ := want_at dx0
    have i8 : Mk pF [some (.ref a), some fv, some (.ref pF), none, none] (tOp (rIxT K) (tOp (rIxL K) (tVar 0) (tC (.int 0))) (tC (.int 0))) H3 (.str (txt w0.1)) := fun H9 s9 Q9 q9 =>
      ⟨_, rfl, _, _, _, _, rfl, rfl, SqL.of (s9 _ _ (u3 _ _ ha)), atI_nat hx0, _, _, _, _, rfl, rfl, SqT.of (s9 _ _ (u3 _ _ ht)), atI_nat rfl, q9 _ H9 (Same.refl _) (.str _)⟩
    have lm : (List.map wantD (w0 :: ws')).length = ws'.length + 1 := by rw [List.length_map, List.length_cons]
    have ld : ((List.map wantD (w0 :: ws')).drop 1).length = ws'.length := by rw [List.length_drop, lm]; omega
    dsimp only [gName]
    refine s_seq (s_forL (s_lst ?_))
    refine (MkA.go (l := pF) (ds := [.lst [], .lst ([.tup [.str (txt w0.1), .bl true]] ++ (List.map wantD (w0 :: ws')).drop 1)])
      (mka_cons (mk_lst mka_nil e3) (mka_cons (mk_cat' (mk_lst (mka_cons (mk_tup (mka_cons i8 (mka_cons (mk_c (.bl _)) mka_nil)) e3) mka_nil) e3) (mk_from (n := 1) (mk_var (i := 0) rfl dS) e3) e3 (by rw [ld]; show 1 + ws'.length ≤ 1000; omega)) mka_nil)) fun vs H4 s4 d4 => ⟨sz_lit (by rw [d4.length]; exact Nat.le_of_ble_eq_true rfl), fun p4 hp4 => ?_⟩)
    have u4 := Same.upd (o := .lst vs) hp4
    have e4 : (upd H4 p4 (.lst vs)) p4 = some (.lst vs) := upd_same
    generalize upd H4 p4 (.lst vs) = H5 at u4 e4 ⊢
    have s35 := s4.trans u4
    have e5 := s35 _ _ e3
    have d5 := d4.same (sOff (l := pF) u4)
    have n4 : p4 ≠ pF := fun e => by
      subst e
      rw [s4 _ _ e3] at hp4
      cases hp4
    have lv : vs.length = 2 := d4.length
    have hv : ∀ (j : Nat) (x : V), vs[j]? = some x → ∃ (dj : D) (z : V), Dt (Off pF H5) x dj ∧ Ok dj ∧ wantsBad dj = some z ∧ ([V.non, .int 0] : List V)[j]? = some z := fun j x hx => by
      obtain ⟨dj, hdj, dx⟩ := d5.get hx
      have o2 : OkAll ((List.map wantD (w0 :: ws')).drop 1) := okW.2
      have o1 : Ok (.str (txt w0.1)) := okW.1.1
      match j, hdj with
      | 0, hdj =>
        injection hdj with hdj
        subst hdj
        exact ⟨_, .non, dx, trivial, rfl, rfl⟩
      | 1, hdj =>
        injection hdj with hdj
        subst hdj
        exact ⟨_, .int 0, dx, ⟨⟨o1, trivial, trivial⟩, o2⟩, bad_head' rfl (by show ((List.map wantD (w0 :: ws')).drop 1).length < 20; rw [ld]; omega), rfl⟩
      | j + 2, hdj => exact absurd hdj (by simp)
    refine ⟨p4, rfl, ⟨_, SqL.of e4⟩, for_list (K := K) (a := p4) (xs := vs) (fun j σ H' => But pF H5 H' ∧ ∃ (v7 : Option V), σ = [some (.ref a), some fv, some (.ref pF), v7, none] ∧ H' pF = some (.lst (([V.non, .int 0] : List V).take j)))
      ⟨But.refl _ _, _, rfl, e5⟩ (fun j σ H' _ h => SqL.of (h.1 _ _ e4 n4)) ?_ ?_⟩
    · rintro j x σ H6 hx ⟨b6, v7, rfl, hF6⟩
      obtain ⟨dj, z, dz, okz, bz, hz⟩ := hv j x hx
      have s06 : Same H H6 := But.same0 (u3.trans s35) hF b6
      refine ⟨_, rfl, _, rfl, x, fv, dj, e, rfl, (dz.same b6.off).same (Off.sub _ _), okz, hf.same s06, oke, fun u hu dd H7 s7 hdd hx7 => ?_, fun q => (by rw [bz] at q; cases q)⟩
      rw [bz] at hu
      injection hu with hu
      subst hu
      have lk : List.lookup ("number" : Str) [(("number" : Str), z)] = some z := by simp [List.lookup]
      refine ⟨true, T.e_NoWants, fun _ b hb => ?_, fun q => nomatch q⟩
      refine ⟨_, rfl, .inl ⟨rfl, _, SqL.of (s7 _ _ hF6)⟩, _, rfl, rfl, rfl, dd, _, _, rfl, hx7, lk, pF, _, _, rfl, rfl, s7 _ _ hF6, small1000 (by rw [List.length_take]; show min j 2 ≤ _; omega), ?_, some x, rfl, ?_⟩
      · exact (b6.trans (.of s7)).trans But.upd
      · rw [take_more hz]
        exact upd_same
    · rintro σ H6 ⟨b6, v7, rfl, hF6⟩
      rw [lv] at hF6
      exact ⟨_, rfl, k pF H6 (But.same0 (u3.trans s35) hF b6) hF6⟩
theorem o__law_much (T : Txt K mg) : OkF P w K mg base CX0 1 "_law_much" ["_law_wants_here"] spMuch59 := by
  refine T.f__law_much.ok c__law_much (fun vs H Q E h => ?_) (fun f cdv A outer s H vs Q E hr h => ?_)
  · obtain ⟨u, ws, rfl, _⟩ := h
    rfl
  · obtain ⟨u, ws, rfl, ⟨a, xs, rfl, ha, hall, wo, l1, l20⟩, k⟩ := h
    refine ⟨_, (pss_cons (ps_set (i := 1) c__law_much.nd rfl (Or.inl rfl) (pe_callB (cr_max_k K rfl) (by rfl) T.b_max (by decide +kernel) (pa_cons (pe_lc (own := [("_law_name", 2), ("_law_count", 3)]) (tt := tYes) (by rfl) c__law_much.nd (pi_list_k K (pv 0)) (blkOk_by (own := [("_law_name", 2), ("_law_count", 3)]) (N := n__law_much) (sc := defScope s__law_much) (by decide +kernel)) (fun _ _ _ _ _ => (pg_tup_k K (n := 2) rfl (pgs_cons (pg_name (i := 2) c__law_much.nd rfl (Or.inl rfl)) (pgs_cons (pg_name (i := 3) c__law_much.nd rfl (Or.inl rfl)) pgs_nil)))) (fun _ _ _ _ _ => pts_nil) (fun _ _ _ _ _ => (pv 3))) pa_nil)))
(pss_one (ps_ret (pe_ix (ix_list_k K) (pe_lst (pa_cons pe_int (pa_cons (pe_op op_add (pe_op op_fdivW (pe_op op_pow pe_int pe_int) (pe_callB (call_max2 rfl) (by rfl) T.b_max (by decide +kernel) (pa_cons pe_int (pa_cons (pv 1) pa_nil)))) pe_int) pa_nil))) (pe_callTy call_int1 (by rfl) T.b_int (by decide +kernel) (pa_cons (pe_cmpR op_lt (pe_op op_fdivW (pe_op op_pow pe_int pe_int) (pe_callB (call_max2 rfl) (by rfl) T.b_max (by decide +kernel) (pa_cons pe_int (pa_cons (pv 1) pa_nil)))) pe_int (nomark _)) pa_nil)) (fun _ _ => rfl))))), ?_⟩
    have lx : xs.length = ws.length := by rw [hall.length, List.length_map]
    refine ⟨_, rfl, a, rfl, ⟨_, SqL.of ha⟩, fun pD hD => lc_list (K := K) (a := a) (xs := xs) (fun j H' => Same H H' ∧ H' pD = some (.lst (((ws.take j).map Prod.snd).map V.int))) ⟨Same.upd hD, upd_same⟩ (fun j H' _ e => SqL.of (e.1 _ _ ha)) ?_ ?_⟩
    · rintro j x H' hx ⟨sj, ej⟩
      obtain ⟨w, hw, t, rfl, ht⟩ := want_get hall hx
      refine ⟨t, _, rfl, SqT.of (sj _ _ ht), rfl, _, _, rfl, _, _, rfl, rfl, rfl, _, rfl, _, ej, ?_, ?_, ?_⟩
      · rw [List.length_map, List.length_map, List.length_take]
        exact small1000 (by omega)
      · intro b o hb
        rw [upd_ne (ne_of_none hb hD)]
        exact sj _ _ hb
      · rw [upd_same, take_more hw, List.map_append, List.map_append]
        rfl
    rintro H2 ⟨s2, e2⟩
    rw [lx, List.take_length] at e2
    refine ⟨pD, _, rfl, SqL.of e2, (by rw [List.length_map]; omega), fun m hm hl => ?_⟩
    have em := maxC_eq (fun w hw => (wo.all w hw).c0) hm hl
    subst em
    have m0 := maxC_0 ws
    have m9 := maxC_9 fun w hw => (wo.all w hw).c9
    have g : ∀ x : Int, 0 ≤ x → 1 ≤ (if x > 1 then x else 1) := fun x _ => by split <;> omega
    have g1 := g _ m0
    have d0 : 0 ≤ (1000000000 : Int) / (if maxC ws > 1 then maxC ws else 1) := Int.ediv_nonneg (by decide) (by omega)
    have d1 : (1000000000 : Int) / (if maxC ws > 1 then maxC ws else 1) ≤ 1000000000 := Int.ediv_le_self _ (by decide)
    have d2 := Int.lt_mul_ediv_self_add (x := 1000000000) (k := (if maxC ws > 1 then maxC ws else 1)) (by omega)
    have g2 : (if maxC ws > 1 then maxC ws else 1) ≤ 1000000000 := by split <;> omega
    have cd : CDivW 1000000000 (if maxC ws > 1 then maxC ws else 1) := ⟨by omega, log_small (n := 64) (by omega) (Nat.lt_of_le_of_lt (show _ ≤ 1000000000 by omega) (by decide)) (by decide)⟩
    refine ⟨_, _, rfl, rfl, ⟨by decide, by decide, by decide⟩, _, rfl, _, _, rfl, _, _, rfl, rfl, cd, _, _, rfl, rfl, (by show 2 ≤ sizeLine; decide), fun p hp => ?_⟩
    refine ⟨_, _, rfl, rfl, ⟨by decide, by decide, by decide⟩, _, rfl, _, _, rfl, _, _, rfl, rfl, cd, _, _, rfl, rfl, .inr ⟨_, rfl, ?_⟩⟩
    have s3 := s2.trans (Same.upd (o := .lst [V.int 1001, V.int ((1000000000 : Int) / (if maxC ws > 1 then maxC ws else 1) + 1)]) hp)
    by_cases c : (1000000000 : Int) / (if maxC ws > 1 then maxC ws else 1) < 1000
    · refine ⟨_, _, _, .int ((1000000000 : Int) / (if maxC ws > 1 then maxC ws else 1) + 1), rfl, rfl, SqL.of upd_same, ?_, k _ _ s3 ?_ (by omega) (by omega)⟩
      · show atI _ (if decide ((1000000000 : Int) / (if maxC ws > 1 then maxC ws else 1) < 1000) = true then 1 else 0) = _
        rw [if_pos (decide_eq_true c)]
        rfl
      intro n en n1 n2
      injection en with en
      by_cases c1 : maxC ws > 1
      · rw [if_pos c1] at d2 en
        rw [← en, Int.mul_add]
        omega
      · rw [if_neg c1] at c
        exact absurd c (by decide)
    · refine ⟨_, _, _, .int 1001, rfl, rfl, SqL.of upd_same, ?_, k _ _ s3 ?_ (by omega) (by omega)⟩
      · show atI _ (if decide ((1000000000 : Int) / (if maxC ws > 1 then maxC ws else 1) < 1000) = true then 1 else 0) = _
        rw [decide_eq_false c]
        rfl
      intro n en n1 n2
      injection en with en
      omega
theorem o__law_counts_right (T : Txt K mg) : OkF P w K mg base CX0 9 "_law_counts_right" ["_law_tongue_here", "_law_wants_here", "_law_number"] spCounts59 := by
  have o_more_often := o_more_often (P := P) (w := w) (base := base) T
  have o__law_refused := o__law_refused (P := P) (w := w) (base := base) T
  refine T.f__law_counts_right.ok c__law_counts_right (fun vs H Q E h => ?_) (fun f cdv A outer s H vs Q E hr h => ?_)
  · obtain ⟨v, u, n, ws, rfl, _⟩ := h
    rfl
  · obtain ⟨v, u, n, ws, rfl, ⟨a, xs, rfl, ha, hall, wo, l1, l20⟩, n1, n2, k⟩ := h
    refine ⟨_, (pss_cons (ps_if (pt_cmpR (op_neD_k K hr.units) (pe_cx o_more_often hr takes0 (pa_cons (pe_lst (pa_cons (pe_tup (pa_cons pe_str (pa_cons (pe_op op_fdivW (pe_op op_pow pe_int pe_int) (pv 2)) pa_nil))) pa_nil)) (pa_cons (pv 2) pa_nil))) (pe_lst (pa_cons (pe_tup (pa_cons pe_str (pa_cons (pe_op op_mul (pe_op op_fdivW (pe_op op_pow pe_int pe_int) (pv 2)) (pv 2)) pa_nil))) pa_nil)) (nomark _))
(pss_one (ps_ret pe_bl))
pss_nil)
(pss_cons (ps_if (pt_cmpR op_gt (pe_op op_mul (pe_callB (cr_max_k K rfl) (by rfl) T.b_max (by decide +kernel) (pa_cons (pe_lc (own := [("_law_name", 5), ("_law_count", 6)]) (tt := tYes) (by rfl) c__law_counts_right.nd (pi_list_k K (pv 1)) (blkOk_by (own := [("_law_name", 5), ("_law_count", 6)]) (N := n__law_counts_right) (sc := defScope s__law_counts_right) (by decide +kernel)) (fun _ _ _ _ _ => (pg_tup_k K (n := 2) rfl (pgs_cons (pg_name (i := 5) c__law_counts_right.nd rfl (Or.inl rfl)) (pgs_cons (pg_name (i := 6) c__law_counts_right.nd rfl (Or.inl rfl)) pgs_nil)))) (fun _ _ _ _ _ => pts_nil) (fun _ _ _ _ _ => (pv 6))) pa_nil)) (pv 2)) (pe_op op_pow pe_int pe_int) (nomark _))
(pss_one (ps_ret (pe_c o__law_refused hr (pa_cons (pv 0) (pa_cons (pv 1) (pa_cons (pv 2) (pa_cons pe_int pa_nil)))))))
pss_nil)
(pss_cons (ps_set (i := 3) c__law_counts_right.nd rfl (Or.inl rfl) (pe_cx o_more_often hr takes0 (pa_cons (pv 1) (pa_cons (pv 2) pa_nil))))
(pss_cons (ps_setLc (i := 4) (own := [("_law_name", 5), ("_law_count", 6)]) (tt := tYes) (by rfl) c__law_counts_right.nd rfl rfl (sw_true rfl rfl rfl (by decide +kernel)) (pi_list_k K (pv 1)) (blkOk_by (own := [("_law_name", 5), ("_law_count", 6)]) (N := n__law_counts_right) (sc := defScope s__law_counts_right) (by decide +kernel)) (fun _ _ _ _ _ => (pg_tup_k K (n := 2) rfl (pgs_cons (pg_name (i := 5) c__law_counts_right.nd rfl (Or.inl rfl)) (pgs_cons (pg_name (i := 6) c__law_counts_right.nd rfl (Or.inl rfl)) pgs_nil)))) (fun _ _ _ _ _ => pts_nil) (fun _ _ _ _ _ => (pe_tup (pa_cons (pv 5) (pa_cons (pe_op op_mul (pv 6) (pv 2)) pa_nil)))))
(pss_cons (ps_if (pt_cmpR (op_neD_k K hr.units) (pv 3) (pv 4) (nomark _))
(pss_one (ps_ret pe_bl))
pss_nil)
(pss_cons (ps_expr (pe_bm0 PySem.F.plainAttrs_list PySem.F.slot_list_clear PySem.F.type_list_clear mt_clear (pv 3)))
(pss_one (ps_ret (pe_cmpR (op_eqD_k K hr.units) (pe_cx o_more_often hr takes0 (pa_cons (pv 1) (pa_cons (pv 2) pa_nil))) (pv 4) (nomark _)))))))))), ?_⟩
    have lx : xs.length = ws.length := by rw [hall.length, List.length_map]
    have q0 : 0 ≤ (1000000000 : Int) / n := Int.ediv_nonneg (by decide) (by omega)
    have q1 : (1000000000 : Int) / n ≤ 1000000000 := Int.ediv_le_self _ (by decide)
    have q2 : (1000000000 : Int) / n * n ≤ 1000000000 := Int.ediv_mul_le _ (by omega)
    have cd : CDivW 1000000000 n := ⟨by omega, log_small (n := 64) (by omega) (Nat.lt_of_le_of_lt (show _ ≤ 1000 by omega) (by decide)) (by decide)⟩
    have wo1 : WsOk [([97], (1000000000 : Int) / n)] := ⟨fun w hw => by
      rw [List.mem_singleton] at hw
      subst hw
      exact ⟨fun c hc => (by
        have : c = 97 := by simpa using hc
        subst this
        decide +kernel), Nat.le_refl _, (show 1 ≤ 8 by decide), q0, q1⟩, by simp⟩
    refine ⟨_, _, rfl, rfl, ⟨by decide, by decide, by decide⟩, _, rfl, _, _, rfl, rfl, cd, (by show 2 ≤ sizeLine; decide), fun p1 hp1 => ?_⟩
    have e9 : (10 : Int) ^ (9 : Int).toNat = 1000000000 := rfl
    dsimp only
    rw [e9]
    have u1 := Same.upd (o := .tup [V.str "a", .int ((1000000000 : Int) / n)]) hp1
    have e1 : (upd H p1 (.tup [V.str "a", .int ((1000000000 : Int) / n)])) p1 = some (.tup [V.str "a", .int ((1000000000 : Int) / n)]) := upd_same
    generalize upd H p1 (.tup [V.str "a", .int ((1000000000 : Int) / n)]) = H1 at u1 e1 ⊢
    refine ⟨(by show 1 ≤ sizeLine; decide), fun p2 hp2 => ?_⟩
    have u2 := Same.upd (o := .lst [V.ref p1]) hp2
    have e2 : (upd H1 p2 (.lst [V.ref p1])) p2 = some (.lst [V.ref p1]) := upd_same
    generalize upd H1 p2 (.lst [V.ref p1]) = H2 at u2 e2 ⊢
    have s02 := u1.trans u2
    have ta : txt [97] = ("a" : Str) := rfl
    have dA : ∀ {H' : Hp} {p : Addr} {m : Int}, H' p = some (.tup [V.str "a", .int m]) → DtAll H' [V.ref p] ([([97], m)].map wantD) := fun h => .cons (.tup h (.cons (.str _) (.cons (.int _) .nil))) .nil
    have mx : maxC [([97], (1000000000 : Int) / n)] = 1000000000 / n := (maxC_eq (fun w hw => by
      rw [List.mem_singleton] at hw
      subst hw
      exact q0) (m := 1000000000 / n) (by simp) (by simp)).symm
    refine ⟨_, rfl, ?_⟩
    dsimp only [tNil, tCons]
    refine more_good e2 (dA (u2 _ _ e1)) wo1 (Nat.le_refl 1) (show 1 ≤ 20 by decide) n1 n2 (by rw [mx]; exact q2) fun pA ys H3 hpA s3 eA dY => ?_
    refine ⟨_, _, rfl, rfl, ⟨by decide, by decide, by decide⟩, _, rfl, _, _, rfl, rfl, cd, _, rfl, _, _, rfl, rfl, .inr ⟨by omega, by omega⟩, (by show 2 ≤ sizeLine; decide), fun p3 hp3 => ?_⟩
    dsimp only
    rw [e9]
    have u3 := Same.upd (o := .tup [V.str "a", .int ((1000000000 : Int) / n * n)]) hp3
    have e3 : (upd H3 p3 (.tup [V.str "a", .int ((1000000000 : Int) / n * n)])) p3 = some (.tup [V.str "a", .int ((1000000000 : Int) / n * n)]) := upd_same
    generalize upd H3 p3 (.tup [V.str "a", .int ((1000000000 : Int) / n * n)]) = H4 at u3 e3 ⊢
    refine ⟨(by show 1 ≤ sizeLine; decide), fun p4 hp4 => ?_⟩
    have u4 := Same.upd (o := .lst [V.ref p3]) hp4
    have e4 : (upd H4 p4 (.lst [V.ref p3])) p4 = some (.lst [V.ref p3]) := upd_same
    generalize upd H4 p4 (.lst [V.ref p3]) = H5 at u4 e4 ⊢
    have s35 := u3.trans u4
    have wf : ∀ {ws : List (List Nat × Int)}, (∀ w ∈ ws, WOk w) → Ok (.lst (ws.map wantD)) ∧ NoD (.lst (ws.map wantD)) ∧ dep (.lst (ws.map wantD)) ≤ 64 := fun h => wants_facts h
    have wo2 : ∀ w ∈ [([97], (1000000000 : Int) / n * n)], WOk w := fun w hw => by
      rw [List.mem_singleton] at hw
      subst hw
      have a0 := wo1.all _ (List.mem_singleton.mpr rfl)
      exact ⟨a0.l, a0.n1, a0.n8, Int.mul_nonneg q0 (by omega), q2⟩
    refine neS (d := .lst ([([97], (1000000000 : Int) / n * n)].map wantD)) (.lst (s35 _ _ eA) (dY.same s35)) (.lst e4 (dA (u4 _ _ e3))) (wf wo2) ⟨_, rfl, iteF ?_⟩
    have s05 := s02.trans (s3.trans s35)
    have ha5 := s05 _ _ ha
    have hall5 := hall.same s05
    refine ⟨_, rfl, a, rfl, ⟨_, SqL.of ha5⟩, fun pD hD => lc_list (K := K) (a := a) (xs := xs) (fun j H' => Same H5 H' ∧ H' pD = some (.lst (((ws.take j).map Prod.snd).map V.int))) ⟨Same.upd hD, upd_same⟩ (fun j H' _ e => SqL.of (e.1 _ _ ha5)) ?_ ?_⟩
    · rintro j x H' hx ⟨sj, ej⟩
      obtain ⟨w, hw, t, rfl, ht⟩ := want_get hall5 hx
      refine ⟨t, _, rfl, SqT.of (sj _ _ ht), rfl, _, _, rfl, _, _, rfl, rfl, rfl, _, rfl, _, ej, ?_, ?_, ?_⟩
      · rw [List.length_map, List.length_map, List.length_take]
        exact small1000 (by omega)
      · intro b o hb
        rw [upd_ne (ne_of_none hb hD)]
        exact sj _ _ hb
      · rw [upd_same, take_more hw, List.map_append, List.map_append]
        rfl
    rintro H6 ⟨s6, e6⟩
    rw [lx, List.take_length] at e6
    refine ⟨pD, _, rfl, SqL.of e6, (by rw [List.length_map]; omega), fun m hm hl => ?_⟩
    have em := maxC_eq (fun w hw => (wo.all w hw).c0) hm hl
    subst em
    have m0 := maxC_0 ws
    have m9 := maxC_9 fun w hw => (wo.all w hw).c9
    have s06 := s05.trans s6
    have ha6 := s6 _ _ ha5
    have hall6 := hall5.same s6
    refine ⟨_, rfl, _, _, rfl, rfl, .inl ⟨by omega, by omega⟩, _, _, rfl, rfl, ⟨by decide, by decide, by decide⟩, _, _, rfl, rfl, _, rfl, itd (fun c => ?_) fun c => ?_⟩
    · have c : (1000000000 : Int) < maxC ws * n := c
      refine ⟨_, rfl, _, rfl, _, rfl, v, .ref a, .int n, 1, .int n, rfl, .int n, lt300 (Nat.lt_of_lt_of_le (show n.natAbs < 1001 by omega) (by decide)), .inr ⟨rfl, ws, ⟨a, xs, rfl, ha6, hall6, wo, l1, l20⟩, fun m em _ _ => ?_⟩, fun H7 s7 => k _ (s06.trans s7)⟩
      injection em with em
      subst em
      exact c
    have c : ¬ (1000000000 : Int) < maxC ws * n := c
    have wo3 : ∀ w ∈ ws.map (mulW n), WOk w := fun w hw => by
      obtain ⟨w', hw', rfl⟩ := List.mem_map.mp hw
      have a0 := wo.all w' hw'
      have := Int.mul_le_mul_of_nonneg_right (maxC_le w' hw') (show 0 ≤ n by omega)
      exact ⟨a0.l, a0.n1, a0.n8, Int.mul_nonneg a0.c0 (by omega), (show w'.2 * n ≤ 1000000000 by omega)⟩
    refine ⟨_, rfl, _, rfl, ?_⟩
    dsimp only [tNil, tCons]
    refine more_good ha6 hall6 wo l1 l20 n1 n2 (by omega) fun pF ys H7 hpF s7 eF dF => ?_
    have ha7 := s7 _ _ ha6
    have hall7 := hall6.same s7
    refine ⟨_, rfl, a, rfl, ⟨_, SqL.of ha7⟩, fun pE hE => lc_list (K := K) (a := a) (xs := xs) (fun j H' => Same H7 H' ∧ ∃ ys : List V, H' pE = some (.lst ys) ∧ DtAll H' ys (((ws.take j).map (mulW n)).map wantD)) ⟨Same.upd hE, [], upd_same, .nil⟩ (fun j H' _ e => SqL.of (e.1 _ _ ha7)) ?_ ?_⟩
    · rintro j x H' hx ⟨sj, ys, ej, dj'⟩
      obtain ⟨w, hw, t, rfl, ht⟩ := want_get hall7 hx
      have okw := wo.all w (List.mem_of_getElem? hw)
      have w0 := okw.c0
      have w9 := okw.c9
      refine ⟨t, _, rfl, SqT.of (sj _ _ ht), rfl, _, _, rfl, _, _, rfl, rfl, rfl, _, rfl, _, rfl, _, rfl, _, _, rfl, rfl, .inl ⟨by omega, by omega⟩, (by show 2 ≤ sizeLine; decide), fun pn hpn => ?_⟩
      have u6 := Same.upd (o := .tup [V.str (txt w.1), V.int (w.2 * n)]) hpn
      have e6 : (upd H' pn (.tup [V.str (txt w.1), V.int (w.2 * n)])) pn = some (.tup [V.str (txt w.1), V.int (w.2 * n)]) := upd_same
      generalize upd H' pn (.tup [V.str (txt w.1), V.int (w.2 * n)]) = H6 at u6 e6 ⊢
      have ej6 := u6 _ _ ej
      have ly : ys.length ≤ j := by
        rw [dj'.length, List.length_map, List.length_map, List.length_take]
        omega
      have jl := (List.getElem?_eq_some_iff.mp hw).1
      refine ⟨_, ej6, small1000 (by omega), ?_, ys ++ [.ref pn], upd_same, ?_⟩
      · intro b o hb
        rw [upd_ne (ne_of_none hb hE)]
        exact u6 _ _ (sj _ _ hb)
      · have tp := TP.upd (o := .lst (ys ++ [.ref pn])) ej6
        rw [take_more hw, List.map_append, List.map_append]
        exact ((dj'.same u6).tp tp pu_wants).app (.cons (.tup (tp _ _ e6) (.cons (.str _) (.cons (.int _) .nil))) .nil)
    rintro H8 ⟨s8, zs, eE, dE⟩
    rw [lx, List.take_length] at dE
    have eF8 := s8 _ _ eF
    refine ⟨_, rfl, _, rfl, neS (.lst eF8 (dF.same s8)) (.lst eE dE) (wf wo3) ⟨_, rfl, iteF ?_⟩⟩
    refine ⟨_, rfl, .inl ⟨rfl, _, SqL.of eF8⟩, pF, ys, rfl, rfl, eF8, ?_⟩
    have nE : pE ≠ pF := fun e => by
      subst e
      rw [eF] at hE
      cases hE
    have s69 : Same H6 (upd H8 pF (.lst [])) := fun b o hb => by
      rw [upd_ne (ne_of_none hb hpF)]
      exact s8 _ _ (s7 _ _ hb)
    have eE9 : (upd H8 pF (.lst [])) pE = some (.lst zs) := by rw [upd_ne nE]; exact eE
    have dE9 := dE.tp (TP.upd (o := .lst []) eF8) pu_wants
    generalize upd H8 pF (.lst []) = H9 at s69 eE9 dE9 ⊢
    refine ⟨_, rfl, _, rfl, ?_⟩
    dsimp only [tNil, tCons]
    refine more_good (s69 _ _ ha6) (hall6.same s69) wo l1 l20 n1 n2 (by omega) fun pG gs H10 hpG s10 eG dG => ?_
    exact ⟨_, rfl, eqS (.lst eG dG) (.lst (s10 _ _ eE9) (dE9.same s10)) (wf wo3) (k _ (s06.trans (s69.trans s10)))⟩
end
end Dear

namespace Dear
open PySem PySem.Spec PyProof.Rows L2
theorem mulP_ok {x : Int × Int} {t b : Int} (hx : smallF 40 x) (h : smallF 40 (t, b)) : Ok (mulP x (.tup [.int t, .int b])) := by
  obtain ⟨a1, a2, a3⟩ := hx
  obtain ⟨b1, b2, b3⟩ := h
  have l := low_small (timesT (t, b) x) (bots (t, b) x) (Int.mul_pos b1 a1)
  exact ⟨lt300 (Nat.lt_of_le_of_lt l.1 (Nat.lt_of_lt_of_le (wide_lt b2 a2) (Nat.pow_le_pow_right (by decide) (by decide)))), lt300 (Nat.lt_of_le_of_lt l.2 (Nat.lt_of_lt_of_le (wide_lt b3 a3) (Nat.pow_le_pow_right (by decide) (by decide)))), trivial⟩
theorem mulS_facts {x : Int × Int} (hx : smallF 40 x) : ∀ {ds : List D} {cs : List Nat}, SgAll ds cs → OkAll (ds.map (mulS x)) ∧ NoDAll (ds.map (mulS x)) ∧ depAll (ds.map (mulS x)) ≤ 2
  | _, _, .nil => ⟨trivial, trivial, Nat.zero_le _⟩
  | _, _, .cons sd r => by
    obtain ⟨r1, r2, r3⟩ := mulS_facts hx r
    have ofs := sd.facts
    obtain ⟨t, b, l, rfl, hp, hl⟩ := sd.ex
    have os := ofs.2.1.1
    match l, hl with
    | .non, _ => exact ⟨⟨⟨os, mulP_ok hx (frD_price hp), trivial, trivial⟩, r1⟩, ⟨⟨trivial, ⟨trivial, trivial, trivial⟩, trivial, trivial⟩, r2⟩, Nat.max_le.mpr ⟨Nat.le_refl 2, r3⟩⟩
    | .tup [.int t2, .int b2], h2 => exact ⟨⟨⟨os, mulP_ok hx (frD_price hp), mulP_ok hx (frD_price h2), trivial⟩, r1⟩, ⟨⟨trivial, ⟨trivial, trivial, trivial⟩, ⟨trivial, trivial, trivial⟩, trivial⟩, r2⟩, Nat.max_le.mpr ⟨Nat.le_refl 2, r3⟩⟩
theorem tgDear_facts {x : Int × Int} (hx : smallF 40 x) {d : D} {ds : List D} {cs fs : List Nat} {zs : List Str} {i : Int} (t : TgD d ds cs fs zs i) : Ok (tgDear x ds fs zs i) ∧ NoD (tgDear x ds fs zs i) ∧ dep (tgDear x ds fs zs i) ≤ 64 := by
  obtain ⟨h1, h2, h3⟩ := mulS_facts hx t.sg
  have ok := t.ok
  have fl := t.flat
  rw [t.eq] at ok fl
  have a1 := depAll_le (strs_flat (fs.map sgn)).1
  have a2 := depAll_le (strs_flat zs).1
  refine ⟨⟨h1, ok.2⟩, ⟨h2, fl.2.2⟩, ?_⟩
  show max (depAll (ds.map (mulS x)) + 1) (max (depAll ((fs.map sgn).map D.str) + 1) (max (depAll (zs.map D.str) + 1) (max 0 0))) + 1 ≤ 64
  omega
theorem TgAt.dtD {H0 H : Hp} {v : V} {ds : List D} {cs fs : List Nat} {zs : List Str} {i : Int} (h : TgAt H0 H v ds cs fs zs i) : Dt H v (.tup [.lst ds, .lst ((fs.map sgn).map D.str), .lst (zs.map D.str), .int i]) := by
  obtain ⟨p, a, b, c, xs, rfl, h1, h2, h3, h4, h5, _⟩ := h.ex
  exact .tup h1 (.cons (.lst h2 h3) (.cons (.lst h4 (dt_strs _)) (.cons (.lst h5 (dt_strs _)) (.cons (.int i) .nil))))
theorem TgAt.same' {H0 H H' : Hp} {v : V} {ds : List D} {cs fs : List Nat} {zs : List Str} {i : Int} (h : TgAt H0 H v ds cs fs zs i) (s : Same H H') : TgAt H0 H' v ds cs fs zs i := by
  obtain ⟨p, a, b, c, xs, rfl, h1, h2, h3, h4, h5, r⟩ := h.ex
  exact ⟨p, a, b, c, xs, rfl, s _ _ h1, s _ _ h2, h3.same s, s _ _ h4, s _ _ h5, r⟩
theorem dearer_good {C N : Addr} {H0 H : Hp} {Q : VK} {E : XK} {v : V} {d : D} {ds : List D} {cs fs : List Nat} {zs : List Str} {i : Int} {pf : Addr} {x : Int × Int} (td : TgD d ds cs fs zs i) (ta : TgAt H0 H v ds cs fs zs i) (hf : H pf = some (.tup [.int x.1, .int x.2])) (px : PrOk x.1 x.2)
    (k : ∀ v' H', Same H H' → TgAt H H' v' (ds.map (mulS x)) cs fs zs i → Q v' H') : spDearer C N [v, .ref pf] H Q E :=
  ⟨v, .ref pf, d, frD x, rfl, ta.dt td, td.ok, .tup hf (.cons (.int _) (.cons (.int _) .nil)), px.ok, fun u hu => (by rw [tgBad_ok td.look] at hu; cases hu), fun _ h => (by have := px.is; rw [show isPrice (frD x) = true from this] at h; cases h), fun _ _ => ⟨x, ds, cs, fs, zs, i, H0, rfl, frD_price px, td, ta, k⟩⟩
/-! ### displays whose things are alike in one respect -/
def MkAll (σ : L2.St) (t : TA) (H : Hp) (p : D → Prop) (n : Nat) : Prop := ∀ H1, Same H H1 → ∀ Q : List V → Hp → Prop, (∀ vs ds H2, Same H1 H2 → DtAll H2 vs ds → ds.length = n → (∀ d ∈ ds, p d) → Q vs H2) → t σ H1 Q
theorem mkl_nil {σ : L2.St} {H : Hp} {p : D → Prop} : MkAll σ tNil H p 0 := fun H1 _ _ q => q [] [] H1 (Same.refl _) .nil rfl fun _ h => nomatch h
theorem mkl_cons {σ : L2.St} {H : Hp} {p : D → Prop} {t : TE} {u : TA} {d : D} {n : Nat} (h1 : MkE σ t H d) (h : p d) (h2 : MkAll σ u H p n) : MkAll σ (tCons t u) H p (n + 1) := fun H1 s Q q => by
  refine h1 H1 s _ fun v H2 s2 d2 => ?_
  refine h2 H2 (s.trans s2) _ fun vs ds H3 s3 d3 l3 p3 => ?_
  refine q (v :: vs) (d :: ds) H3 (s2.trans s3) (.cons (d2.same s3) d3) (by rw [List.length_cons, l3]) fun e he => ?_
  rcases List.mem_cons.mp he with rfl | he
  · exact h
  · exact p3 e he
theorem mkl_consP {σ : L2.St} {H : Hp} {p : D → Prop} {t : TE} {u : TA} {n : Nat} (h1 : ∀ H1, Same H H1 → ∀ Q : VK, (∀ v d H2, Same H1 H2 → Dt H2 v d → p d → Q v H2) → t σ H1 Q) (h2 : MkAll σ u H p n) : MkAll σ (tCons t u) H p (n + 1) := fun H1 s Q q => by
  refine h1 H1 s _ fun v d H2 s2 d2 h => ?_
  refine h2 H2 (s.trans s2) _ fun vs ds H3 s3 d3 l3 p3 => ?_
  refine q (v :: vs) (d :: ds) H3 (s2.trans s3) (.cons (d2.same s3) d3) (by rw [List.length_cons, l3]) fun e he => ?_
  rcases List.mem_cons.mp he with rfl | he
  · exact h
  · exact p3 e he
theorem MkAll.go {σ : L2.St} {H : Hp} {p : D → Prop} {t : TA} {n : Nat} (h : MkAll σ t H p n) {Q : List V → Hp → Prop} (q : ∀ vs ds H2, Same H H2 → DtAll H2 vs ds → ds.length = n → (∀ d ∈ ds, p d) → Q vs H2) : t σ H Q := h H (Same.refl H) Q q
theorem pickP {H : Hp} {vs : List V} {ds : List D} {p : D → Prop} (h : DtAll H vs ds) (hp : ∀ d ∈ ds, p d) {r : Int} (r0 : 0 ≤ r) (r1 : r < ds.length) : ∃ (v : V) (d : D), atI vs r = some v ∧ Dt H v d ∧ p d := by
  obtain ⟨x, hx, _, hx2⟩ := at_lt (xs := vs) (r := r) r0 (by rw [h.length]; exact r1)
  obtain ⟨d, hd, dx⟩ := h.get hx2
  exact ⟨x, d, hx, dx, hp d (List.mem_of_getElem? hd)⟩
section
variable {P : Program} {w : World} {K : PySem.W.Frag} {mg : Str → Option Value} {base : Heap}
set_option pp.maxSteps 3000
theorem ok_law (T : Txt K mg) {f : Addr} {fd : FuncData} (F : Fun K "law" "law" s_law f fd) : FnOk P w K mg base CX0 10 f fd ["_law_script"] (spLaw K) := by
  have o__law_cell := o__law_cell (P := P) (w := w) (base := base) T
  have o__law_draws := o__law_draws (P := P) (w := w) (base := base) T
  have o__law_low := o__law_low (P := P) (w := w) (base := base) T
  have o__law_tongue := o__law_tongue (P := P) (w := w) (base := base) T
  have o__law_copy := o__law_copy (P := P) (w := w) (base := base) T
  have o__law_wants := o__law_wants (P := P) (w := w) (base := base) T
  have o__law_dearer := o__law_dearer (P := P) (w := w) (base := base) T
  have o__law_refused := o__law_refused (P := P) (w := w) (base := base) T
  have o__law_no_tongue := o__law_no_tongue (P := P) (w := w) (base := base) T
  have o__law_no_wants := o__law_no_wants (P := P) (w := w) (base := base) T
  have o__law_much := o__law_much (P := P) (w := w) (base := base) T
  have o__law_counts_right := o__law_counts_right (P := P) (w := w) (base := base) T
  have o_dearer := o_dearer (P := P) (w := w) (base := base) T
  refine F.ok c_law (fun vs H Q E h => ?_) (fun cdv A outer s H vs Q E hr h => ?_)
  · obtain ⟨a, ns, rfl, _⟩ := h
    rfl
  · obtain ⟨a, ns, rfl, hS, hlen, k⟩ := h
    refine ⟨_, (pss_cons (ps_set (i := 1) c_law.nd rfl (Or.inl rfl) (pe_c o__law_tongue hr (pa_cons (pv 0) (pa_cons pe_int (pa_cons pe_int pa_nil)))))
(pss_cons (ps_set (i := 2) c_law.nd rfl (Or.inl rfl) (pe_c o__law_copy hr (pa_cons (pv 1) pa_nil)))
(pss_cons (ps_set (i := 3) c_law.nd rfl (Or.inl rfl) (pe_c o__law_wants hr (pa_cons (pv 0) (pa_cons pe_int (pa_cons (pe_op op_add pe_int (pe_ix (ix_list_k K) (pe_c o__law_draws hr (pa_cons (pe_c o__law_cell hr (pa_cons (pv 0) (pa_cons pe_int pa_nil))) (pa_cons pe_int (pa_cons (pe_lst (pa_cons pe_int pa_nil)) pa_nil)))) pe_int (fun _ _ => rfl))) pa_nil)))))
(pss_cons (ps_set (i := 4) c_law.nd rfl (Or.inl rfl) (pe_callTy (call_list_of_k K) (by rfl) T.b_list (by decide +kernel) (pa_cons (pv 3) pa_nil)))
(pss_cons (ps_for PassesOwn.never rfl (pi_enum (by rfl) T.b_enumerate (pa_cons (pe_op op_cat (pe_lst (pa_cons pe_int pa_nil)) (pe_slice (sl_list_k K) (pv 0) (po_some pe_int) (po_some pe_int))) pa_nil)) (pg_tup_k K (n := 2) rfl (pgs_cons (pg_name (i := 5) c_law.nd rfl (Or.inl rfl)) (pgs_cons (pg_name (i := 6) c_law.nd rfl (Or.inl rfl)) pgs_nil)))
(pss_cons (ps_set (i := 7) c_law.nd rfl (Or.inl rfl) (pe_c o__law_draws hr (pa_cons (pv 6) (pa_cons (pe_op op_add pe_int (pv 5)) (pa_cons (pe_lst (pa_cons pe_int (pa_cons pe_int (pa_cons pe_int (pa_cons pe_int (pa_cons pe_int pa_nil)))))) pa_nil)))))
(pss_cons (ps_set (i := 8) c_law.nd rfl (Or.inl rfl) (pe_c o__law_low hr (pa_cons (pe_op op_add pe_int (pe_ix (ix_list_k K) (pv 7) pe_int (fun _ _ => rfl))) (pa_cons (pe_op op_add pe_int (pe_ix (ix_list_k K) (pv 7) pe_int (fun _ _ => rfl))) pa_nil))))
(C8.pss_cut (ps_if (pt_cmpR op_eq (pe_op op_mod (pv 5) pe_int) pe_int (nomark _))
(pss_one (ps_set (i := 8) c_law.nd rfl (Or.inl rfl) (pe_tup (pa_cons pe_int (pa_cons pe_int pa_nil)))))
pss_nil)
(pss_cons (ps_set (i := 9) c_law.nd rfl (Or.inl rfl) (pe_cx o_dearer hr takes0 (pa_cons (pv 1) (pa_cons (pv 8) pa_nil))))
(pss_cons (ps_if (PW.pt (pw_or (pt_cmpR (op_neD_k K hr.units) (pv 9) (pe_c o__law_dearer hr (pa_cons (pv 1) (pa_cons (pv 8) pa_nil))) (nomark _)) (pw_or1 (pt_cmpR (op_neD_k K hr.units) (pv 1) (pv 2) (nomark _)))))
(pss_one (ps_ret pe_bl))
pss_nil)
(pss_cons (ps_expr (pe_bm0 PySem.F.plainAttrs_list PySem.F.slot_list_clear PySem.F.type_list_clear mt_clear (pe_ix (ix_tup_k K) (pv 9) pe_int (fun _ _ => rfl))))
(pss_cons (ps_expr (pe_bm PySem.F.plainAttrs_list PySem.F.slot_list_append PySem.F.type_list_append mt_append (pe_ix (ix_tup_k K) (pv 9) pe_int (fun _ _ => rfl)) (pa_cons pe_str pa_nil)))
(pss_cons (ps_expr (pe_bm PySem.F.plainAttrs_list PySem.F.slot_list_append PySem.F.type_list_append mt_append (pe_ix (ix_tup_k K) (pv 9) pe_int (fun _ _ => rfl)) (pa_cons pe_str pa_nil)))
(pss_cons (ps_if (PW.pt (pw_or (pt_cmpR (op_neD_k K hr.units) (pe_cx o_dearer hr takes0 (pa_cons (pv 1) (pa_cons (pv 8) pa_nil))) (pe_c o__law_dearer hr (pa_cons (pv 1) (pa_cons (pv 8) pa_nil))) (nomark _)) (pw_or1 (pt_cmpR (op_neD_k K hr.units) (pv 1) (pv 2) (nomark _)))))
(pss_one (ps_ret pe_bl))
pss_nil)
(pss_cons (ps_if (pt_not (pt_val (pe_c o__law_counts_right hr (pa_cons (pv 1) (pa_cons (pv 3) (pa_cons (pe_ix (ix_list_k K) (pe_lst (pa_cons pe_int (pa_cons pe_int (pa_cons (pe_op op_add pe_int (pe_ix (ix_list_k K) (pv 7) pe_int (fun _ _ => rfl))) (pa_cons pe_int pa_nil))))) (pe_op op_mod (pv 5) pe_int) (fun _ _ => rfl)) pa_nil))))))
(pss_one (ps_ret pe_bl))
pss_nil)
(pss_cons (ps_set (i := 10) c_law.nd rfl (Or.inl rfl) (pe_ix (ix_list_k K) (pe_lst (pa_cons (pe_tup (pa_cons pe_int (pa_cons pe_int pa_nil))) (pa_cons (pe_tup (pa_cons (pe_un un_neg pe_int) (pa_cons pe_int pa_nil))) (pa_cons pe_int (pa_cons pe_non (pa_cons pe_bl (pa_cons (pe_tup (pa_cons pe_int (pa_cons pe_int pa_nil))) (pa_cons (pe_tup (pa_cons pe_int (pa_cons pe_int pa_nil))) (pa_cons (pe_tup (pa_cons pe_bl (pa_cons pe_int pa_nil))) (pa_cons (pe_lst (pa_cons pe_int (pa_cons pe_int pa_nil))) (pa_cons pe_str (pa_cons (pe_tup (pa_cons pe_int (pa_cons pe_int (pa_cons pe_int pa_nil)))) (pa_cons (pe_tup (pa_cons pe_int (pa_cons (pe_un un_neg pe_int) pa_nil))) pa_nil))))))))))))) (pe_ix (ix_list_k K) (pv 7) pe_int (fun _ _ => rfl)) (fun _ _ => rfl)))
(pss_cons (ps_set (i := 11) c_law.nd rfl (Or.inl rfl) (pe_ix (ix_list_k K) (pe_lst (pa_cons pe_int (pa_cons (pe_un un_neg pe_int) (pa_cons pe_bl (pa_cons pe_non (pa_cons pe_str (pa_cons (pe_tup (pa_cons pe_int (pa_cons pe_int pa_nil))) (pa_cons pe_int (pa_cons (pe_op op_add (pe_op op_pow pe_int pe_int) pe_int) (pa_cons (pe_lst (pa_cons pe_int pa_nil)) (pa_cons pe_dnewK (pa_cons pe_bl (pa_cons (pe_c o__law_much hr (pa_cons (pv 3) pa_nil)) pa_nil))))))))))))) (pe_ix (ix_list_k K) (pv 7) pe_int (fun _ _ => rfl)) (fun _ _ => rfl)))
(pss_cons (ps_if (PW.pt (pw_or (pt_not (pt_val (pe_c o__law_refused hr (pa_cons (pv 1) (pa_cons (pv 3) (pa_cons (pv 10) (pa_cons pe_int pa_nil))))))) (pw_or1 (pt_not (pt_val (pe_c o__law_refused hr (pa_cons (pv 1) (pa_cons (pv 3) (pa_cons (pv 11) (pa_cons pe_int pa_nil))))))))))
(pss_one (ps_ret pe_bl))
pss_nil)
(pss_cons (ps_if (pt_cmpR (op_neD_k K hr.units) (pe_c o__law_no_tongue hr (pa_cons (pv 1) (pa_cons (pe_ix (ix_list_k K) (pe_lst (pa_cons (pv 8) (pa_cons (pv 10) pa_nil))) (pe_op op_mod (pv 5) pe_int) (fun _ _ => rfl)) pa_nil))) (pe_lst (pa_cons pe_str (pa_cons pe_str pa_nil))) (nomark _))
(pss_one (ps_ret pe_bl))
pss_nil)
(pss_one (ps_if (pt_cmpR (op_neD_k K hr.units) (pe_c o__law_no_wants hr (pa_cons (pv 3) (pa_cons (pe_ix (ix_list_k K) (pe_lst (pa_cons pe_int (pa_cons (pv 11) pa_nil))) (pe_op op_mod (pv 5) pe_int) (fun _ _ => rfl)) pa_nil))) (pe_lst (pa_cons pe_non (pa_cons pe_int pa_nil))) (nomark _))
(pss_one (ps_ret pe_bl))
pss_nil)))))))))))))))))
(pss_one (ps_ret (pe_cmpR (op_eqD_k K hr.units) (pv 3) (pv 4) (nomark _))))))))), ?_⟩
    refine ⟨_, rfl, a, ns, 6, 8, rfl, hS, by decide, by decide, by decide, by decide, fun v d ds cs fs zs i H1 s1 td ta => ?_⟩
    refine ⟨_, rfl, v, d, ds, cs, fs, zs, i, H, rfl, td, ta, fun kv H2 s2 dk => ?_⟩
    have s02 := s1.trans s2
    refine ⟨_, rfl, _, rfl, a, ns, 8, rfl, s02.seq hS, by decide, fun z => ⟨(by show 1 ≤ sizeLine; decide), fun p0 hp0 => ?_⟩⟩
    have u0 := Same.upd (o := .lst [V.int 20]) hp0
    refine ⟨z, 8, p0, [20], rfl, SqL.of upd_same, by decide, by decide, fun p1 rs H3 hp1 s3 e1 dr => ?_⟩
    obtain ⟨r, rfl, r0, r1⟩ := dr.one
    obtain ⟨m, rfl⟩ := Int.eq_ofNat_of_zero_le r0
    have s03 := s02.trans (u0.trans s3)
    refine ⟨_, _, _, _, rfl, rfl, SqL.of e1, rfl, _, _, rfl, rfl, ?_⟩
    dsimp only [tNil, tCons]
    rw [show (1 + ((m : Nat) : Int)) = ((m + 1 : Nat) : Int) by omega]
    refine ⟨a, ns, 9, m + 1, rfl, s03.seq hS, by decide, by omega, fun pW xs ws H4 hpW s4 hW hd wo wl => ?_⟩
    have n1 : 1 ≤ ws.length := by omega
    have n20 : ws.length ≤ 20 := by omega
    have lx : xs.length = ws.length := by rw [hd.length, List.length_map]
    refine ⟨_, rfl, pW, xs, rfl, .inl (SqL.of hW), fun pK hK => ?_⟩
    have u4 := Same.upd (o := .lst xs) hK
    have e4 : (upd H4 pK (.lst xs)) pK = some (.lst xs) := upd_same
    generalize upd H4 pK (.lst xs) = H5 at u4 e4 ⊢
    have s25 := (u0.trans s3).trans (s4.trans u4)
    have s05 := s02.trans s25
    refine ⟨(by show 1 ≤ sizeLine; decide), fun p5 hp5 => ?_⟩
    have u5 := Same.upd (o := .lst [V.int 0]) hp5
    have e5 : (upd H5 p5 (.lst [V.int 0])) p5 = some (.lst [V.int 0]) := upd_same
    generalize upd H5 p5 (.lst [V.int 0]) = H6 at u5 e5 ⊢
    refine ⟨_, rfl, _, rfl, _, rfl, a, _, rfl, (s05.trans u5).seq hS, fun p6 hp6 => ?_⟩
    have cl : (cutV (ns.map V.int) (some 10) (some 40)).length ≤ 63 := by
      have := cutV_length (ns.map V.int) (some 10) (some 40)
      rw [List.length_map] at this
      omega
    have ci : ∀ x ∈ [V.int 0] ++ cutV (ns.map V.int) (some 10) (some 40), ∃ z : Int, x = .int z := fun v hv => by
      rcases List.mem_append.mp hv with hv | hv
      · exact ⟨0, by simpa using hv⟩
      · obtain ⟨z, _, rfl⟩ := List.mem_map.mp (mem_cut hv)
        exact ⟨z, rfl⟩
    generalize cutV (ns.map V.int) (some 10) (some 40) = cells at cl ci ⊢
    have u6 := Same.upd (o := .lst cells) hp6
    have e6 : (upd H6 p6 (.lst cells)) p6 = some (.lst cells) := upd_same
    generalize upd H6 p6 (.lst cells) = H7 at u6 e6 ⊢
    refine ⟨p5, p6, _, _, rfl, rfl, u6 _ _ e5, e6, sz_lit (by show 1 + cells.length ≤ 1000; omega), fun p7 hp7 => ?_⟩
    have u7 := Same.upd (o := .lst ([V.int 0] ++ cells)) hp7
    have e7 : (upd H7 p7 (.lst ([V.int 0] ++ cells))) p7 = some (.lst ([V.int 0] ++ cells)) := upd_same
    generalize upd H7 p7 (.lst ([V.int 0] ++ cells)) = H8 at u7 e7 ⊢
    have s58 := u5.trans (u6.trans u7)
    have s28 := s25.trans s58
    have ta8 := ta.same' (s2.trans s28)
    have dk8 := dk.same s28
    have hW8 := s58 _ _ (u4 _ _ hW)
    have hd8 := hd.same (u4.trans s58)
    have hK8 := s58 _ _ e4
    have fW := wants_facts wo.all
    have fT : Ok d ∧ NoD d ∧ dep d ≤ 64 := ⟨td.ok, td.flat.2, td.flat.1⟩
    clear ta dk hW hd e4 e5 e6 s58 s28 s25 s05 s03 s02 s3 s4 u0 u4 u5 u6 u7
    refine ⟨p7, _, rfl, SqL.of e7, for_it walk_enum (fun j σ H' => Same H8 H' ∧ ∃ v5 v6 v7 v8 v9 v10 v11, σ = [some (.ref a), some v, some kv, some (.ref pW), some (.ref pK), v5, v6, v7, v8, v9, v10, v11])
      ⟨Same.refl _, _, _, _, _, _, _, _, rfl⟩ (fun j σ H' _ h => SqL.of (h.1 _ _ e7)) ?_ ?_⟩
    · rintro j y σ H9 H9' hj ⟨s9, v5, v6, v7, v8, v9, v10, v11, rfl⟩ ⟨tp, y1, y2, rfl, htp, rfl, hy1, hy2⟩
      injection hy1 with hy1
      subst hy1
      obtain ⟨z, rfl⟩ := ci _ (List.mem_of_getElem? hy2)
      have u9 := Same.upd (o := .tup [V.int (j : Nat), V.int z]) htp
      have e9 : (upd H9 tp (.tup [V.int (j : Nat), V.int z])) tp = some (.tup [V.int (j : Nat), V.int z]) := upd_same
      generalize upd H9 tp (.tup [V.int (j : Nat), V.int z]) = H10 at u9 e9 ⊢
      have s10 := s9.trans u9
      refine ⟨tp, _, rfl, SqT.of e9, rfl, _, _, rfl, _, _, rfl, rfl, ?_⟩
      refine ⟨_, rfl, _, rfl, _, _, rfl, rfl, (by show 5 ≤ sizeLine; decide), fun q1 hq1 => ?_⟩
      have u11 := Same.upd (o := .lst [V.int 999999, .int 999999, .int 1000, .int 12, .int 12]) hq1
      refine ⟨z, _, q1, [999999, 999999, 1000, 12, 12], rfl, SqL.of upd_same, by decide, by decide, fun pR rs H11 hpR s11 eR dr => ?_⟩
      obtain ⟨x0, hx0, x00, x01⟩ := dr.at (i := 0) rfl
      obtain ⟨x1, hx1, x10, x11⟩ := dr.at (i := 1) rfl
      obtain ⟨x2, hx2, x20, x21⟩ := dr.at (i := 2) rfl
      obtain ⟨x3, hx3, x30, x31⟩ := dr.at (i := 3) rfl
      obtain ⟨x4, hx4, x40, x41⟩ := dr.at (i := 4) rfl
      have s811 := s10.trans (u11.trans s11)
      refine ⟨_, rfl, _, _, _, _, rfl, rfl, SqL.of eR, atI_int (i := 0) hx0, _, _, rfl, rfl, _, rfl, _, _, _, _, rfl, rfl, SqL.of eR, atI_int (i := 1) hx1, _, _, rfl, rfl, _, _, rfl, by omega, log_small (n := 64) (by decide) (Nat.lt_of_le_of_lt (show _ ≤ 1000000 by omega) (by decide)) (by decide), fun pf H12 hpf s12 ef => ?_⟩
      refine ⟨fun σ' H' => Same H11 H' ∧ ∃ (pf : Addr) (x : Int × Int) (v9 v10 v11 : Option V), σ' = [some (.ref a), some v, some kv, some (.ref pW), some (.ref pK), some (.int (j : Nat)), some (.int z), some (.ref pR), some (.ref pf), v9, v10, v11] ∧ H' pf = some (.tup [.int x.1, .int x.2]) ∧ PrOk x.1 x.2, ?_, ?_⟩
      · refine ⟨_, rfl, _, _, rfl, rfl, (by show (0 : Int) < 8; decide), rfl, _, rfl, itd (fun c => ?_) fun c => ?_⟩
        · refine ⟨(by show 2 ≤ sizeLine; decide), fun p2 hp2 => ?_⟩
          exact ⟨s12.trans (Same.upd hp2), p2, (1, 1), _, _, _, rfl, upd_same, ⟨by decide, by decide, by decide, by decide, by decide⟩⟩
        · obtain ⟨g1, g2, g3, g4, g5⟩ := low_pos (t := 1 + x0) (b := 1 + x1) (by omega) (by omega)
          exact ⟨s12, pf, (lowT (1 + x0) (1 + x1), lowB (1 + x0) (1 + x1)), _, _, _, rfl, ef, ⟨g1, g2, (by show lowT (1 + x0) (1 + x1) ≤ _; omega), (by show lowB (1 + x0) (1 + x1) ≤ _; omega), g5⟩⟩
      clear ef s12 hpf pf H12
      rintro σ' H12 ⟨s12, pf, x, v9, v10, v11, rfl, ef, px⟩
      have s812 := s811.trans s12
      have sx : smallF 40 x := frD_price px
      refine ⟨_, rfl, _, rfl, ?_⟩
      dsimp only [tNil, tCons]
      refine dearer_good td (ta8.same' s812) ef px fun vF H13 s13 taF => ?_
      have s813 := s812.trans s13
      have ft := tgDear_facts sx td
      refine ⟨_, rfl, _, rfl, _, rfl, v, pf, x, d, ds, cs, fs, zs, i, H, rfl, ⟨s13 _ _ ef, sx.1, sx.2.1, sx.2.2⟩, td, ta8.same' s813, fun vD H14 s14 dD => ?_⟩
      have s814 := s813.trans s14
      refine neS ((taF.dtD).same s14) dD ft ⟨_, rfl, iteF ⟨_, rfl, _, rfl, neS ((ta8.same' s814).dt td) (dk8.same s814) fT ⟨_, rfl, iteF ?_⟩⟩⟩
      obtain ⟨pv, pa, pb, pc, ys, rfl, t1, t2, t3, t4, t5, n1', n2', n3', n4', nab, nac, nbc⟩ := taF.ex
      refine ⟨_, rfl, _, _, _, _, rfl, rfl, SqT.of (s14 _ _ t1), rfl, .inl ⟨rfl, _, SqL.of (s14 _ _ t2)⟩, pa, _, rfl, rfl, s14 _ _ t2, ?_⟩
      have s15 : Same H12 (upd H14 pa (.lst [])) := fun b o hb => by
        rw [upd_ne (ne_of_none hb n2')]
        exact s14 _ _ (s13 _ _ hb)
      have t1' : (upd H14 pa (.lst [])) pv = some (.tup [.ref pa, .ref pb, .ref pc, .int i]) := by
        rw [upd_ne (ne_of t1 t2 (by intro z; cases z))]
        exact s14 _ _ t1
      have t4' : (upd H14 pa (.lst [])) pb = some (.lst ((fs.map sgn).map V.str)) := by
        rw [upd_ne nab.symm]
        exact s14 _ _ t4
      have t5' : (upd H14 pa (.lst [])) pc = some (.lst (zs.map V.str)) := by
        rw [upd_ne nac.symm]
        exact s14 _ _ t5
      generalize upd H14 pa (.lst []) = H15 at s15 t1' t4' t5' ⊢
      have lf : fs.length ≤ 6 := td.fs6
      have lz : zs.length ≤ 36 := td.zs36
      refine ⟨_, rfl, _, _, _, _, rfl, rfl, SqT.of t1', rfl, .inl ⟨rfl, _, SqL.of t4'⟩, pb, _, _, rfl, rfl, t4', small1000 (by rw [List.length_map, List.length_map]; omega), ?_⟩
      have s16 : Same H12 (upd H15 pb (.lst ((fs.map sgn).map V.str ++ [V.str "a"]))) := fun b o hb => by
        rw [upd_ne (ne_of_none hb n3')]
        exact s15 _ _ hb
      have t1'' : (upd H15 pb (.lst ((fs.map sgn).map V.str ++ [V.str "a"]))) pv = some (.tup [.ref pa, .ref pb, .ref pc, .int i]) := by
        rw [upd_ne (ne_of t1' t4' (by intro z; cases z))]
        exact t1'
      have t5'' : (upd H15 pb (.lst ((fs.map sgn).map V.str ++ [V.str "a"]))) pc = some (.lst (zs.map V.str)) := by
        rw [upd_ne nbc.symm]
        exact t5'
      generalize upd H15 pb (.lst ((fs.map sgn).map V.str ++ [V.str "a"])) = H16 at s16 t1'' t5'' ⊢
      refine ⟨_, rfl, _, _, _, _, rfl, rfl, SqT.of t1'', rfl, .inl ⟨rfl, _, SqL.of t5''⟩, pc, _, _, rfl, rfl, t5'', small1000 (by rw [List.length_map]; omega), ?_⟩
      have s17 : Same H12 (upd H16 pc (.lst (zs.map V.str ++ [V.str "aa"]))) := fun b o hb => by
        rw [upd_ne (ne_of_none hb n4')]
        exact s16 _ _ hb
      generalize upd H16 pc (.lst (zs.map V.str ++ [V.str "aa"])) = H17 at s17 ⊢
      clear t1' t4' t5' t1'' t5'' s16 s15 s14 s813 s814 dD t1 t2 t3 t4 t5 taF
      have s817 := s812.trans s17
      refine ⟨_, rfl, _, rfl, ?_⟩
      dsimp only [tNil, tCons]
      refine dearer_good td (ta8.same' s817) (s17 _ _ ef) px fun vG H18 s18 taG => ?_
      have s818 := s817.trans s18
      refine ⟨_, rfl, _, rfl, v, pf, x, d, ds, cs, fs, zs, i, H, rfl, ⟨s18 _ _ (s17 _ _ ef), sx.1, sx.2.1, sx.2.2⟩, td, ta8.same' s818, fun vD H19 s19 dD => ?_⟩
      have s819 := s818.trans s19
      refine neS ((taG.dtD).same s19) dD ft ⟨_, rfl, iteF ⟨_, rfl, _, rfl, neS ((ta8.same' s819).dt td) (dk8.same s819) fT ⟨_, rfl, iteF ?_⟩⟩⟩
      have s1219 := s17.trans (s18.trans s19)
      have eR19 := s1219 _ _ (s12 _ _ eR)
      have gw : ∀ {H' : Hp}, Same H8 H' → GoodW H' (.ref pW) ws := fun s => ⟨pW, xs, rfl, s _ _ hW8, hd8.same s, wo, n1, n20⟩
      refine ⟨_, rfl, _, rfl, _, rfl, _, _, _, _, rfl, rfl, SqL.of eR19, atI_int (i := 2) hx2, _, _, rfl, rfl, (by show 4 ≤ sizeLine; decide), fun q2 hq2 => ?_⟩
      have u20 := Same.upd (o := .lst [V.int 1, .int 1000, .int (1 + x2), .int 10]) hq2
      have e20 : (upd H19 q2 (.lst [V.int 1, .int 1000, .int (1 + x2), .int 10])) q2 = some (.lst [V.int 1, .int 1000, .int (1 + x2), .int 10]) := upd_same
      generalize upd H19 q2 (.lst [V.int 1, .int 1000, .int (1 + x2), .int 10]) = H20 at u20 e20 ⊢
      have m0 : 0 ≤ ((j : Nat) : Int) % 4 := Int.emod_nonneg _ (by decide)
      have m4 : ((j : Nat) : Int) % 4 < 4 := Int.emod_lt_of_pos _ (by decide)
      obtain ⟨yv, hyv, _, hyv2⟩ := at_lt (xs := [V.int 1, .int 1000, .int (1 + x2), .int 10]) (r := ((j : Nat) : Int) % 4) m0 m4
      obtain ⟨n, rfl, nn1, nn2⟩ : ∃ n : Int, yv = .int n ∧ 1 ≤ n ∧ n ≤ 1000 := by
        have hm := List.mem_of_getElem? hyv2
        simp only [List.mem_cons, List.not_mem_nil, or_false] at hm
        rcases hm with rfl | rfl | rfl | rfl
        · exact ⟨_, rfl, by decide, by decide⟩
        · exact ⟨_, rfl, by decide, by decide⟩
        · exact ⟨_, rfl, by omega, by omega⟩
        · exact ⟨_, rfl, by decide, by decide⟩
      have s820 := s819.trans u20
      refine ⟨_, rfl, _, _, rfl, rfl, (by show (0 : Int) < 4; decide), _, _, _, _, rfl, rfl, SqL.of e20, hyv, v, .ref pW, n, ws, rfl, gw s820, nn1, nn2, fun H21 s21 => ⟨_, rfl, iteF ?_⟩⟩
      have s821 := s820.trans s21
      have eR21 := s21 _ _ (u20 _ _ eR19)
      have sz : ∀ n : Nat, n < 2 ^ 40 → n < 2 ^ 300 := fun n h => Nat.lt_of_lt_of_le h (Nat.pow_le_pow_right (by decide) (by decide))
      refine s_nx ?_
      dsimp only
      refine s_seq (s_set (s_op (s_lst ?_)))
      refine MkAll.go (p := fun d => Ok d ∧ isPrice d = false) (n := 12)
        (mkl_cons (mke_tup (mkea_cons (mke_c fun _ => .int _) (mkea_cons (mke_c fun _ => .int _) mkea_nil))) ⟨⟨sz _ (by decide), sz _ (by decide), trivial⟩, by decide +kernel⟩ (mkl_cons (mke_tup (mkea_cons mke_neg (mkea_cons (mke_c fun _ => .int _) mkea_nil))) ⟨⟨sz _ (by decide), sz _ (by decide), trivial⟩, by decide +kernel⟩ (mkl_cons (mke_c fun _ => .int _) ⟨sz _ (by decide), rfl⟩ (mkl_cons (mke_c fun _ => .non) ⟨trivial, rfl⟩ (mkl_cons (mke_c fun _ => .bl _) ⟨trivial, rfl⟩
        (mkl_cons (mke_tup (mkea_cons (mke_c fun _ => .int _) (mkea_cons (mke_c fun _ => .int _) mkea_nil))) ⟨⟨sz _ (by decide), sz _ (by decide), trivial⟩, by decide +kernel⟩ (mkl_cons (mke_tup (mkea_cons (mke_c fun _ => .int _) (mkea_cons (mke_c fun _ => .int _) mkea_nil))) ⟨⟨sz _ (by decide), sz _ (by decide), trivial⟩, by decide +kernel⟩ (mkl_cons (mke_tup (mkea_cons (mke_c fun _ => .bl _) (mkea_cons (mke_c fun _ => .int _) mkea_nil))) ⟨⟨trivial, sz _ (by decide), trivial⟩, rfl⟩ (mkl_cons (mke_lst (mkea_cons (mke_c fun _ => .int _) (mkea_cons (mke_c fun _ => .int _) mkea_nil))) ⟨⟨sz _ (by decide), sz _ (by decide), trivial⟩, rfl⟩
        (mkl_cons (mke_c fun _ => .str _) ⟨⟨by decide +kernel, by decide +kernel⟩, rfl⟩ (mkl_cons (mke_tup (mkea_cons (mke_c fun _ => .int _) (mkea_cons (mke_c fun _ => .int _) (mkea_cons (mke_c fun _ => .int _) mkea_nil)))) ⟨⟨sz _ (by decide), sz _ (by decide), sz _ (by decide), trivial⟩, rfl⟩ (mkl_cons (mke_tup (mkea_cons (mke_c fun _ => .int _) (mkea_cons mke_neg mkea_nil))) ⟨⟨sz _ (by decide), sz _ (by decide), trivial⟩, by decide +kernel⟩ mkl_nil))))))))))))
        fun vs es H22 s22 d22 l22 p22 => ⟨sz_lit (by rw [d22.length, l22]; decide), fun q3 hq3 => ?_⟩
      have uH23 := Same.upd (o := .lst vs) hq3
      have eq3 : (upd H22 q3 (.lst vs)) q3 = some (.lst vs) := upd_same
      generalize upd H22 q3 (.lst vs) = H23 at uH23 eq3 ⊢
      have s823 := s821.trans (s22.trans uH23)
      have eR23 := uH23 _ _ (s22 _ _ eR21)
      obtain ⟨vo, eo, hvo, dvo, oko, pro⟩ := pickP (d22.same uH23) p22 (r := x3) x30 (by rw [l22]; exact x31)
      refine ⟨_, rfl, _, _, _, _, rfl, rfl, SqL.of eR23, atI_int (i := 3) hx3, _, _, _, _, rfl, rfl, SqL.of eq3, hvo, ?_⟩
      dsimp only
      refine s_seq (s_set (s_op (s_lst ?_)))
      refine MkAll.go (p := fun d => Ok d ∧ NoFac ws d) (n := 12)
        (mkl_cons (mke_c fun _ => .int _) ⟨sz _ (by decide), fun n e => by injection e; omega⟩ (mkl_cons mke_neg ⟨sz _ (by decide), fun n e => by injection e; omega⟩ (mkl_cons (mke_c fun _ => .bl _) ⟨trivial, fun n e => nomatch e⟩ (mkl_cons (mke_c fun _ => .non) ⟨trivial, fun n e => nomatch e⟩ (mkl_cons (mke_c fun _ => .str _) ⟨⟨by decide +kernel, by decide +kernel⟩, fun n e => nomatch e⟩
        (mkl_cons (mke_tup (mkea_cons (mke_c fun _ => .int _) (mkea_cons (mke_c fun _ => .int _) mkea_nil))) ⟨⟨sz _ (by decide), sz _ (by decide), trivial⟩, fun n e => nomatch e⟩ (mkl_cons (mke_c fun _ => .int _) ⟨sz _ (by decide), fun n e => by injection e; omega⟩ (mkl_cons (d := .int 1000000001) (mke_add (mke_pow ⟨by decide, by decide, by decide⟩) (mke_c fun _ => .int _)) ⟨sz _ (by decide), fun n e => by injection e; omega⟩ (mkl_cons (mke_lst (mkea_cons (mke_c fun _ => .int _) mkea_nil)) ⟨⟨sz _ (by decide), trivial⟩, fun n e => nomatch e⟩
        (mkl_cons mke_dnew ⟨trivial, fun n e => nomatch e⟩ (mkl_cons (mke_c fun _ => .bl _) ⟨trivial, fun n e => nomatch e⟩ (mkl_consP (fun H1 s1 Q1 q1 => ⟨_, rfl, .ref pW, ws, rfl, gw (s823.trans s1), fun n H2 s2 nf n0 n9 => q1 _ (.int n) H2 s2 (.int n) ⟨sz _ (by omega), nf⟩⟩) mkl_nil))))))))))))
        fun us gs H24 s24 d24 l24 p24 => ⟨sz_lit (by rw [d24.length, l24]; decide), fun q4 hq4 => ?_⟩
      have uH25 := Same.upd (o := .lst us) hq4
      have eq4 : (upd H24 q4 (.lst us)) q4 = some (.lst us) := upd_same
      generalize upd H24 q4 (.lst us) = H25 at uH25 eq4 ⊢
      have s825 := s823.trans (s24.trans uH25)
      have eR25 := uH25 _ _ (s24 _ _ eR23)
      have dvo25 := dvo.same (s24.trans uH25)
      obtain ⟨vm, em, hvm, dvm, okm, nfm⟩ := pickP (d24.same uH25) p24 (r := x4) x40 (by rw [l24]; exact x41)
      refine ⟨_, rfl, _, _, _, _, rfl, rfl, SqL.of eR25, atI_int (i := 4) hx4, _, _, _, _, rfl, rfl, SqL.of eq4, hvm, ?_⟩
      refine ⟨_, rfl, _, rfl, _, rfl, v, .ref pW, vo, 0, eo, rfl, dvo25, oko, .inl ⟨rfl, d, (ta8.same' s825).dt td, td.ok, tgBad_ok td.look, pro⟩, fun H26 s26 => ⟨_, rfl, iteF ?_⟩⟩
      have s826 := s825.trans s26
      refine ⟨_, rfl, _, rfl, _, rfl, v, .ref pW, vm, 1, em, rfl, dvm.same s26, okm, .inr ⟨rfl, ws, gw s826, nfm⟩, fun H27 s27 => ⟨_, rfl, iteF ?_⟩⟩
      have s827 := s826.trans s27
      have s2527 := s26.trans s27
      refine ⟨_, rfl, _, rfl, _, rfl, (by show 2 ≤ sizeLine; decide), fun q5 hq5 => ?_⟩
      have uH28 := Same.upd (o := .lst [V.ref pf, vo]) hq5
      have eq5 : (upd H27 q5 (.lst [V.ref pf, vo])) q5 = some (.lst [V.ref pf, vo]) := upd_same
      generalize upd H27 q5 (.lst [V.ref pf, vo]) = H28 at uH28 eq5 ⊢
      have ef27 := s24.trans (uH25.trans s2527)
      have m20 : 0 ≤ ((j : Nat) : Int) % 2 := Int.emod_nonneg _ (by decide)
      have m22 : ((j : Nat) : Int) % 2 < 2 := Int.emod_lt_of_pos _ (by decide)
      have s1228 : Same H12 H28 := s1219.trans (u20.trans (s21.trans (s22.trans (uH23.trans (ef27.trans uH28)))))
      have d28 : DtAll H28 [V.ref pf, vo] [frD x, eo] := .cons (.tup (s1228 _ _ ef) (.cons (.int _) (.cons (.int _) .nil))) (.cons (dvo25.same (s2527.trans uH28)) .nil)
      obtain ⟨vz, ez, hvz, dvz, okz⟩ := pickP d28 (p := Ok) (fun e he => by
        simp only [List.mem_cons, List.not_mem_nil, or_false] at he
        rcases he with rfl | rfl
        · exact px.ok
        · exact oko) (r := ((j : Nat) : Int) % 2) m20 m22
      have s828 := s827.trans uH28
      refine ⟨_, rfl, _, _, rfl, rfl, (by show (0 : Int) < 2; decide), _, _, _, _, rfl, rfl, SqL.of eq5, hvz, v, vz, d, ez, ds, cs, fs, zs, i, H, rfl, dvz, okz, td, ta8.same' s828, fun q6 H29 s29 e29 => ?_⟩
      refine ⟨(by show 2 ≤ sizeLine; decide), fun q7 hq7 => ?_⟩
      have uH30 := Same.upd (o := .lst [V.str "longest", V.str "signs"]) hq7
      have eq7 : (upd H29 q7 (.lst [V.str "longest", V.str "signs"])) q7 = some (.lst [V.str "longest", V.str "signs"]) := upd_same
      generalize upd H29 q7 (.lst [V.str "longest", V.str "signs"]) = H30 at uH30 eq7 ⊢
      refine neS (d := .lst [.str "longest", .str "signs"]) (.lst (uH30 _ _ e29) (.cons (.str _) (.cons (.str _) .nil))) (.lst eq7 (.cons (.str _) (.cons (.str _) .nil))) ⟨⟨⟨by decide +kernel, by decide +kernel⟩, ⟨by decide +kernel, by decide +kernel⟩, trivial⟩, ⟨trivial, trivial, trivial⟩, by decide⟩ ⟨_, rfl, iteF ?_⟩
      have s830 := s828.trans (s29.trans uH30)
      refine ⟨_, rfl, _, rfl, (by show 2 ≤ sizeLine; decide), fun q8 hq8 => ?_⟩
      have uH31 := Same.upd (o := .lst [V.int 2, vm]) hq8
      have eq8 : (upd H30 q8 (.lst [V.int 2, vm])) q8 = some (.lst [V.int 2, vm]) := upd_same
      generalize upd H30 q8 (.lst [V.int 2, vm]) = H31 at uH31 eq8 ⊢
      have s831 := s830.trans uH31
      have d31 : DtAll H31 [V.int 2, vm] [.int 2, em] := .cons (.int _) (.cons (dvm.same (s2527.trans (uH28.trans (s29.trans (uH30.trans uH31))))) .nil)
      obtain ⟨vy, ey, hvy, dvy, oky⟩ := pickP d31 (p := Ok) (fun e he => by
        simp only [List.mem_cons, List.not_mem_nil, or_false] at he
        rcases he with rfl | rfl
        · exact sz _ (by decide)
        · exact okm) (r := ((j : Nat) : Int) % 2) m20 m22
      refine ⟨_, rfl, _, _, rfl, rfl, (by show (0 : Int) < 2; decide), _, _, _, _, rfl, rfl, SqL.of eq8, hvy, .ref pW, vy, ey, ws, rfl, dvy, oky, gw s831, fun q9 H32 s32 e32 => ?_⟩
      refine ⟨(by show 2 ≤ sizeLine; decide), fun q10 hq10 => ?_⟩
      have uH33 := Same.upd (o := .lst [V.non, V.int 0]) hq10
      have eq10 : (upd H32 q10 (.lst [V.non, V.int 0])) q10 = some (.lst [V.non, V.int 0]) := upd_same
      generalize upd H32 q10 (.lst [V.non, V.int 0]) = H33 at uH33 eq10 ⊢
      refine neS (d := .lst [.non, .int 0]) (.lst (uH33 _ _ e32) (.cons .non (.cons (.int _) .nil))) (.lst eq10 (.cons .non (.cons (.int _) .nil))) ⟨⟨trivial, sz _ (by decide), trivial⟩, ⟨trivial, trivial, trivial⟩, by decide⟩ ⟨_, rfl, iteF ?_⟩
      exact ⟨s831.trans (s32.trans uH33), _, _, _, _, _, _, _, rfl⟩
    · rintro σ H9 ⟨s9, v5, v6, v7, v8, v9, v10, v11, rfl⟩
      exact ⟨_, rfl, _, rfl, eqS (.lst (s9 _ _ hW8) (hd8.same s9)) (.lst (s9 _ _ hK8) (hd8.same s9)) fW (k _)⟩
end
end Dear

namespace Dear
open PySem PySem.Spec PyProof.Rows L2
theorem walk {l : PySem.W.OpenLaw} {q : Program} {loose : List Str} {XP : (Str → Option Value) → Heap → Prop} {YP : World → Heap → Prop} {d : DefRec} {K : Params → PySem.W.Frag} (hn : l.most = some 63) (hdf : d.params.defaults = [])
    (hY : ∀ (w : World) (h : Heap), YP w h → (K w.params).In h)
    (F : ∀ (w : World) (mg : Str → Option Value) (fa : Addr) (h : Heap), (K w.params).In h → h.Ns mainGlobals mg → mg d.name = some (.ref fa) →
      ∃ fd : FuncData, (∀ (s : Shared) (u : Value), BindsTo s fd ⟨[u], []⟩ [("_law_script", u)]) ∧ ∀ base : Heap, (K w.params).In base → base.Ns mainGlobals mg → FnOk l.prog w (K w.params) mg base CX0 20 fa fd ["_law_script"] (spLaw (K w.params))) :
    PySem.W.WalkO q loose XP YP l.row.toRowW d [] (fun f vs => PySem.call f vs) :=
  L2.walk_of (n := 63) (k := 20) (x := "_law_script") (CX := fun _ => CX0) (sp := fun w => spLaw (K w.params)) hn (by decide) hdf ⟨rfl, by decide, by decide⟩ hY F (fun _ _ a ns hl _ hS => ⟨a, ns, rfl, hS, hl, fun _ => rfl⟩) fun _ _ _ _ _ z => z
theorem fin {l : PySem.W.OpenLaw} {w : World} {K : PySem.W.Frag} {h : Heap} {mg : Str → Option Value} {fa : Addr} (X : K.In h) (G : h.Ns mainGlobals mg) (hfa : mg "law" = some (.ref fa)) (T : Txt K mg) :
    ∃ fd : FuncData, (∀ (s : Shared) (v : Value), BindsTo s fd ⟨[v], []⟩ [("_law_script", v)]) ∧ ∀ base : Heap, K.In base → base.Ns mainGlobals mg → FnOk l.prog w K mg base CX0 20 fa fd ["_law_script"] (spLaw K) := by
  obtain ⟨f, fd, hm, F, hb⟩ := id T.f_law
  have e := hfa.symm.trans hm
  cases e
  refine ⟨fd, fun s v => ?_, fun base _ _ => (ok_law T F).mono (by decide)⟩
  obtain ⟨oc, od, kV, doc, pm, an, cdv, ct, osl, rfl, lk, hcd⟩ := F.ex
  exact .of_eq rfl
end Dear

open PySem PySem.W PyProof.Rows
set_option maxRecDepth 100000 in
set_option maxHeartbeats 0 in
theorem PySem.Challenge.cw_dearsigns_k59_factors_holds : PySem.Challenge.rw_dearsigns_k59_factors.Holds := by
  w_on; o_law; k_head; (case hw => w_witness2)
  k_fill
  refine Dear.walk (l := PySem.Challenge.rw_dearsigns_k59_factors) rfl rfl (fun w h Y => PySem.W.kIn_of Y) ?F
  case F =>
    intro w mg fa h KX G hmg
    refine Dear.fin KX G hmg ?T
    case T =>
      refine' Dear.txt_mk KX G ?g_DearError ?i_DearError ?t_DearError ?g_NoNumber ?i_NoNumber ?t_NoNumber ?g_NoBook ?i_NoBook ?t_NoBook ?g_NoTree ?i_NoTree ?t_NoTree ?g_TooMany ?i_TooMany ?t_TooMany ?g_NoCount ?i_NoCount ?t_NoCount ?g_NoUndo ?i_NoUndo ?t_NoUndo ?g_NoTurn ?i_NoTurn ?t_NoTurn ?g_NoRow ?i_NoRow ?t_NoRow ?g_Unknown ?i_Unknown ?t_Unknown ?g_NoTongue ?i_NoTongue ?t_NoTongue ?g_NoWants ?i_NoWants ?t_NoWants ?g_NoThing ?i_NoThing ?t_NoThing ?g_BadSign ?i_BadSign ?t_BadSign ?g_NoText ?i_NoText ?t_NoText ?b_DearError ?x1_NoTurn ?x2_NoTurn ?x3_NoTurn ?x4_NoTurn ?x5_NoTurn ?x6_NoTurn ?x7_NoTurn ?x8_NoTurn ?x9_NoTurn ?x10_NoTurn ?x11_NoTurn ?d1 ?d2 ?d3 ?xl_NoTongue ?sa_NoTongue ?x2_NoTongue ?x3_NoTongue ?x4_NoTongue ?x5_NoTongue ?x6_NoTongue ?x7_NoTongue ?x8_NoTongue ?x9_NoTongue ?x10_NoTongue ?x11_NoTongue ?fn_NoTongue ?i1_NoTongue ?i2_NoTongue ?i3_NoTongue ?i4_NoTongue ?i5_NoTongue ?xl_NoWants ?sa_NoWants ?x2_NoWants ?x3_NoWants ?x4_NoWants ?x5_NoWants ?x6_NoWants ?x7_NoWants ?x8_NoWants ?x9_NoWants ?x10_NoWants ?x11_NoWants ?fn_NoWants ?i1_NoWants ?i2_NoWants ?i3_NoWants ?i4_NoWants ?i5_NoWants ?q_NoTongue_DearError ?n_NoTongue_DearError ?q_NoTongue_NoNumber ?n_NoTongue_NoNumber ?q_NoTongue_NoBook ?n_NoTongue_NoBook ?q_NoTongue_NoTree ?n_NoTongue_NoTree ?q_NoTongue_TooMany ?n_NoTongue_TooMany ?q_NoTongue_NoCount ?n_NoTongue_NoCount ?q_NoTongue_NoUndo ?n_NoTongue_NoUndo ?q_NoTongue_NoTurn ?n_NoTongue_NoTurn ?q_NoTongue_NoRow ?n_NoTongue_NoRow ?q_NoTongue_Unknown ?n_NoTongue_Unknown ?q_NoTongue_NoTongue ?q_NoTongue_NoWants ?n_NoTongue_NoWants ?q_NoTongue_NoThing ?n_NoTongue_NoThing ?q_NoTongue_BadSign ?n_NoTongue_BadSign ?q_NoTongue_NoText ?n_NoTongue_NoText ?q_NoTongue_ValueError ?q_NoWants_DearError ?n_NoWants_DearError ?q_NoWants_NoNumber ?n_NoWants_NoNumber ?q_NoWants_NoBook ?n_NoWants_NoBook ?q_NoWants_NoTree ?n_NoWants_NoTree ?q_NoWants_TooMany ?n_NoWants_TooMany ?q_NoWants_NoCount ?n_NoWants_NoCount ?q_NoWants_NoUndo ?n_NoWants_NoUndo ?q_NoWants_NoTurn ?n_NoWants_NoTurn ?q_NoWants_NoRow ?n_NoWants_NoRow ?q_NoWants_Unknown ?n_NoWants_Unknown ?q_NoWants_NoTongue ?n_NoWants_NoTongue ?q_NoWants_NoWants ?q_NoWants_NoThing ?n_NoWants_NoThing ?q_NoWants_BadSign ?n_NoWants_BadSign ?q_NoWants_NoText ?n_NoWants_NoText ?q_NoWants_ValueError ?q_NoTurn_DearError ?n_NoTurn_DearError ?q_NoTurn_NoNumber ?n_NoTurn_NoNumber ?q_NoTurn_NoBook ?n_NoTurn_NoBook ?q_NoTurn_NoTree ?n_NoTurn_NoTree ?q_NoTurn_TooMany ?n_NoTurn_TooMany ?q_NoTurn_NoCount ?n_NoTurn_NoCount ?q_NoTurn_NoUndo ?n_NoTurn_NoUndo ?q_NoTurn_NoTurn ?q_NoTurn_NoRow ?n_NoTurn_NoRow ?q_NoTurn_Unknown ?n_NoTurn_Unknown ?q_NoTurn_NoTongue ?n_NoTurn_NoTongue ?q_NoTurn_NoWants ?n_NoTurn_NoWants ?q_NoTurn_NoThing ?n_NoTurn_NoThing ?q_NoTurn_BadSign ?n_NoTurn_BadSign ?q_NoTurn_NoText ?n_NoTurn_NoText ?q_NoTurn_ValueError ?b_NoTongue ?b_NoWants ?a1 ?l1 ?c1 ?k1 ?a2 ?l2 ?c2 ?k2 ?a3 ?l3 ?c3 ?k3 ?a4 ?l4 ?c4 ?k4 ?a5 ?l5 ?c5 ?k5 ?a6 ?l6 ?c6 ?k6 ?a7 ?l7 ?c7 ?k7 ?a8 ?l8 ?c8 ?k8 ?a9 ?l9 ?c9 ?k9 ?a10 ?l10 ?c10 ?k10 ?a11 ?l11 ?c11 ?k11 ?a12 ?l12 ?c12 ?k12 ?a13 ?l13 ?c13 ?k13 ?a14 ?l14 ?c14 ?k14 ?a15 ?l15 ?c15 ?k15 ?a16 ?l16 ?c16 ?k16 ?a17 ?l17 ?c17 ?k17 ?a18 ?l18 ?c18 ?k18 ?a19 ?l19 ?c19 ?k19 ?a20 ?l20 ?c20 ?k20 ?a21 ?l21 ?c21 ?k21 ?a22 ?l22 ?c22 ?k22 ?a23 ?l23 ?c23 ?k23 ?a24 ?l24 ?c24 ?k24 ?a25 ?l25 ?c25 ?k25 ?a26 ?l26 ?c26 ?k26 ?a27 ?l27 ?c27 ?k27 ?a28 ?l28 ?c28 ?k28 ?a29 ?l29 ?c29 ?k29 ?a30 ?l30 ?c30 ?k30 ?a31 ?l31 ?c31 ?k31 ?a32 ?l32 ?c32 ?k32 ?a33 ?l33 ?c33 ?k33 ?a34 ?a35 ?a36 ?a37 ?a38 ?a39 ?a40 ?a41 ?a42 ?a43 ?a44 ?a45 ?a46 ?a47 ?a48 ?a49 ?a50 ?a51 ?a52 ?a53 ?a54 ?a55 ?a56 ?a57
      (case g_DearError => k_is); (case i_DearError => k_is); (case t_DearError => k_is); (case g_NoNumber => k_is); (case i_NoNumber => k_is); (case t_NoNumber => k_is); (case g_NoBook => k_is); (case i_NoBook => k_is)
      (case t_NoBook => k_is); (case g_NoTree => k_is); (case i_NoTree => k_is); (case t_NoTree => k_is); (case g_TooMany => k_is); (case i_TooMany => k_is); (case t_TooMany => k_is); (case g_NoCount => k_is)
      (case i_NoCount => k_is); (case t_NoCount => k_is); (case g_NoUndo => k_is); (case i_NoUndo => k_is); (case t_NoUndo => k_is); (case g_NoTurn => k_is); (case i_NoTurn => k_is); (case t_NoTurn => k_is)
      (case g_NoRow => k_is); (case i_NoRow => k_is); (case t_NoRow => k_is); (case g_Unknown => k_is); (case i_Unknown => k_is); (case t_Unknown => k_is); (case g_NoTongue => k_is); (case i_NoTongue => k_is)
      (case t_NoTongue => k_is); (case g_NoWants => k_is); (case i_NoWants => k_is); (case t_NoWants => k_is); (case g_NoThing => k_is); (case i_NoThing => k_is); (case t_NoThing => k_is); (case g_BadSign => k_is)
      (case i_BadSign => k_is); (case t_BadSign => k_is); (case g_NoText => k_is); (case i_NoText => k_is); (case t_NoText => k_is); (case b_DearError => k_is); (case x1_NoTurn => k_exc); (case x2_NoTurn => k_is)
      (case x3_NoTurn => k_is); (case x4_NoTurn => k_is); (case x5_NoTurn => k_is); (case x6_NoTurn => k_is); (case x7_NoTurn => k_is); (case x8_NoTurn => k_is); (case x9_NoTurn => k_is); (case x10_NoTurn => k_is)
      (case x11_NoTurn => k_is); (case d1 => k_is); (case d2 => k_is); (case d3 => k_is); (case xl_NoTongue => k_is); (case sa_NoTongue => k_is); (case x2_NoTongue => k_is); (case x3_NoTongue => k_is)
      (case x4_NoTongue => k_is); (case x5_NoTongue => k_is); (case x6_NoTongue => k_is); (case x7_NoTongue => k_is); (case x8_NoTongue => k_is); (case x9_NoTongue => k_is); (case x10_NoTongue => k_is); (case x11_NoTongue => k_is)
      (case fn_NoTongue => k_is); (case i1_NoTongue => k_is); (case i2_NoTongue => k_is); (case i3_NoTongue => k_is); (case i4_NoTongue => k_is); (case i5_NoTongue => k_is); (case xl_NoWants => k_is); (case sa_NoWants => k_is)
      (case x2_NoWants => k_is); (case x3_NoWants => k_is); (case x4_NoWants => k_is); (case x5_NoWants => k_is); (case x6_NoWants => k_is); (case x7_NoWants => k_is); (case x8_NoWants => k_is); (case x9_NoWants => k_is)
      (case x10_NoWants => k_is); (case x11_NoWants => k_is); (case fn_NoWants => k_is); (case i1_NoWants => k_is); (case i2_NoWants => k_is); (case i3_NoWants => k_is); (case i4_NoWants => k_is); (case i5_NoWants => k_is)
      (case q_NoTongue_DearError => k_is); (case n_NoTongue_DearError => rfl); (case q_NoTongue_NoNumber => k_is); (case n_NoTongue_NoNumber => rfl); (case q_NoTongue_NoBook => k_is); (case n_NoTongue_NoBook => rfl); (case q_NoTongue_NoTree => k_is); (case n_NoTongue_NoTree => rfl)
      (case q_NoTongue_TooMany => k_is); (case n_NoTongue_TooMany => rfl); (case q_NoTongue_NoCount => k_is); (case n_NoTongue_NoCount => rfl); (case q_NoTongue_NoUndo => k_is); (case n_NoTongue_NoUndo => rfl); (case q_NoTongue_NoTurn => k_is); (case n_NoTongue_NoTurn => rfl)
      (case q_NoTongue_NoRow => k_is); (case n_NoTongue_NoRow => rfl); (case q_NoTongue_Unknown => k_is); (case n_NoTongue_Unknown => rfl); (case q_NoTongue_NoTongue => k_is); (case q_NoTongue_NoWants => k_is); (case n_NoTongue_NoWants => rfl); (case q_NoTongue_NoThing => k_is)
      (case n_NoTongue_NoThing => rfl); (case q_NoTongue_BadSign => k_is); (case n_NoTongue_BadSign => rfl); (case q_NoTongue_NoText => k_is); (case n_NoTongue_NoText => rfl); (case q_NoTongue_ValueError => k_is); (case q_NoWants_DearError => k_is); (case n_NoWants_DearError => rfl)
      (case q_NoWants_NoNumber => k_is); (case n_NoWants_NoNumber => rfl); (case q_NoWants_NoBook => k_is); (case n_NoWants_NoBook => rfl); (case q_NoWants_NoTree => k_is); (case n_NoWants_NoTree => rfl); (case q_NoWants_TooMany => k_is); (case n_NoWants_TooMany => rfl)
      (case q_NoWants_NoCount => k_is); (case n_NoWants_NoCount => rfl); (case q_NoWants_NoUndo => k_is); (case n_NoWants_NoUndo => rfl); (case q_NoWants_NoTurn => k_is); (case n_NoWants_NoTurn => rfl); (case q_NoWants_NoRow => k_is); (case n_NoWants_NoRow => rfl)
      (case q_NoWants_Unknown => k_is); (case n_NoWants_Unknown => rfl); (case q_NoWants_NoTongue => k_is); (case n_NoWants_NoTongue => rfl); (case q_NoWants_NoWants => k_is); (case q_NoWants_NoThing => k_is); (case n_NoWants_NoThing => rfl); (case q_NoWants_BadSign => k_is)
      (case n_NoWants_BadSign => rfl); (case q_NoWants_NoText => k_is); (case n_NoWants_NoText => rfl); (case q_NoWants_ValueError => k_is); (case q_NoTurn_DearError => k_is); (case n_NoTurn_DearError => rfl); (case q_NoTurn_NoNumber => k_is); (case n_NoTurn_NoNumber => rfl)
      (case q_NoTurn_NoBook => k_is); (case n_NoTurn_NoBook => rfl); (case q_NoTurn_NoTree => k_is); (case n_NoTurn_NoTree => rfl); (case q_NoTurn_TooMany => k_is); (case n_NoTurn_TooMany => rfl); (case q_NoTurn_NoCount => k_is); (case n_NoTurn_NoCount => rfl)
      (case q_NoTurn_NoUndo => k_is); (case n_NoTurn_NoUndo => rfl); (case q_NoTurn_NoTurn => k_is); (case q_NoTurn_NoRow => k_is); (case n_NoTurn_NoRow => rfl); (case q_NoTurn_Unknown => k_is); (case n_NoTurn_Unknown => rfl); (case q_NoTurn_NoTongue => k_is)
      (case n_NoTurn_NoTongue => rfl); (case q_NoTurn_NoWants => k_is); (case n_NoTurn_NoWants => rfl); (case q_NoTurn_NoThing => k_is); (case n_NoTurn_NoThing => rfl); (case q_NoTurn_BadSign => k_is); (case n_NoTurn_BadSign => rfl); (case q_NoTurn_NoText => k_is)
      (case n_NoTurn_NoText => rfl); (case q_NoTurn_ValueError => k_is); (case b_NoTongue => k_is); (case b_NoWants => k_is); (case a1 => k_is); (case l1 => k_is); (case c1 => k_is); (case k1 => k_is)
      (case a2 => k_is); (case l2 => k_is); (case c2 => k_is); (case k2 => k_is); (case a3 => k_is); (case l3 => k_is); (case c3 => k_is); (case k3 => k_is)
      (case a4 => k_is); (case l4 => k_is); (case c4 => k_is); (case k4 => k_is); (case a5 => k_is); (case l5 => k_is); (case c5 => k_is); (case k5 => k_is)
      (case a6 => k_is); (case l6 => k_is); (case c6 => k_is); (case k6 => k_is); (case a7 => k_is); (case l7 => k_is); (case c7 => k_is); (case k7 => k_is)
      (case a8 => k_is); (case l8 => k_is); (case c8 => k_is); (case k8 => k_is); (case a9 => k_is); (case l9 => k_is); (case c9 => k_is); (case k9 => k_is)
      (case a10 => k_is); (case l10 => k_is); (case c10 => k_is); (case k10 => k_is); (case a11 => k_is); (case l11 => k_is); (case c11 => k_is); (case k11 => k_is)
      (case a12 => k_is); (case l12 => k_is); (case c12 => k_is); (case k12 => k_is); (case a13 => k_is); (case l13 => k_is); (case c13 => k_is); (case k13 => k_is)
      (case a14 => k_is); (case l14 => k_is); (case c14 => k_is); (case k14 => k_is); (case a15 => k_is); (case l15 => k_is); (case c15 => k_is); (case k15 => k_is)
      (case a16 => k_is); (case l16 => k_is); (case c16 => k_is); (case k16 => k_is); (case a17 => k_is); (case l17 => k_is); (case c17 => k_is); (case k17 => k_is)
      (case a18 => k_is); (case l18 => k_is); (case c18 => k_is); (case k18 => k_is); (case a19 => k_is); (case l19 => k_is); (case c19 => k_is); (case k19 => k_is)
      (case a20 => k_is); (case l20 => k_is); (case c20 => k_is); (case k20 => k_is); (case a21 => k_is); (case l21 => k_is); (case c21 => k_is); (case k21 => k_is)
      (case a22 => k_is); (case l22 => k_is); (case c22 => k_is); (case k22 => k_is); (case a23 => k_is); (case l23 => k_is); (case c23 => k_is); (case k23 => k_is)
      (case a24 => k_is); (case l24 => k_is); (case c24 => k_is); (case k24 => k_is); (case a25 => k_is); (case l25 => k_is); (case c25 => k_is); (case k25 => k_is)
      (case a26 => k_is); (case l26 => k_is); (case c26 => k_is); (case k26 => k_is); (case a27 => k_is); (case l27 => k_is); (case c27 => k_is); (case k27 => k_is)
      (case a28 => k_is); (case l28 => k_is); (case c28 => k_is); (case k28 => k_is); (case a29 => k_is); (case l29 => k_is); (case c29 => k_is); (case k29 => k_is)
      (case a30 => k_is); (case l30 => k_is); (case c30 => k_is); (case k30 => k_is); (case a31 => k_is); (case l31 => k_is); (case c31 => k_is); (case k31 => k_is)
      (case a32 => k_is); (case l32 => k_is); (case c32 => k_is); (case k32 => k_is); (case a33 => k_is); (case l33 => k_is); (case c33 => k_is); (case k33 => k_is)
      (case a34 => k_is); (case a35 => k_is); (case a36 => k_is); (case a37 => k_is); (case a38 => k_is); (case a39 => k_is); (case a40 => k_is); (case a41 => k_is)
      (case a42 => k_is); (case a43 => k_is); (case a44 => k_is); (case a45 => k_is); (case a46 => k_is); (case a47 => k_is); (case a48 => k_is); (case a49 => k_is)
      (case a50 => k_is); (case a51 => k_is); (case a52 => k_is); (case a53 => k_is); (case a54 => k_is); (case a55 => k_is); (case a56 => k_is); (case a57 => k_is)
#print axioms PySem.Challenge.cw_dearsigns_k59_factors_holds

