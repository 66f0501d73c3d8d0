import PyProof.Rows.All
import Wide.All
import OpenK.AllK
import Wide.FinOn
import HandS.ForMost
import HandS.Wide
import HandS.IsInst
import HandS.Flow
import HandS.Walk
import HandS.Strs
import HandS.Style
import HandS.Exc
import HandS.Codes
import HandS.ForExc
import HandS.ExcIs
import HandS.Defaults
import HandS.ExcInit
import HandS.FStr
import HandS.ExcField
import HandS.TryOnly
import HandS.Conv
import HandS.More
import KE.KIntText
import KE.GoesZip
import Flt.Len
import PySem.Challenge.RW_dearsigns_k58_orders_of_things
set_option Elab.async false
set_option linter.all false
set_option maxRecDepth 100000
set_option maxHeartbeats 4000000

namespace Dear
open PySem PySem.Spec PyProof.Rows L2
/-! ### a def of the text, and a def with its promise -/
def Df (K : PySem.W.Frag) (mg : Str → Option Value) (x : Str) (st : Stmt) (ps : List Str) : Prop :=
  ∃ (f : Addr) (fd : FuncData), mg x = some (.ref f) ∧ Fun K x x st f fd ∧ Binds K fd ps []
def OkF (P : Program) (w : World) (K : PySem.W.Frag) (mg : Str → Option Value) (base : Heap) (CX : CXT) (k : Nat) (x : Str) (ps : List Str) (sp : Sp) : Prop :=
  ∃ (f : Addr) (fd : FuncData), mg x = some (.ref f) ∧ PySem.W.keepIn K (.ref f) = true ∧ Binds K fd ps [] ∧ FnOk P w K mg base CX k f fd ps sp
section
variable {P : Program} {w : World} {K : PySem.W.Frag} {mg : Str → Option Value} {base : Heap}
theorem Df.ok {x : Str} {st : Stmt} {N ps : List Str} {k : Nat} {sp : Sp} (D : Df K mg x st ps) (S : FnScope N ps (defScope st)) (len : ∀ vs H Q E, sp vs H Q E → vs.length = ps.length)
    (hbody : ∀ (f : Addr) (cdv : Value) (A : Around) (outer : List Env) (s : Shared) (H : Hp) (vs : List V) (Q : VK) (E : XK), Room k (A.deeper (envOfC x (defScope st) s.heap.objs.size f cdv)) → sp vs H Q E →
      ∃ t, PSs (cxOf CX0 P w K mg base N x (defScope st) f cdv A outer s H E).nox (defBody st) t ∧ t { nx := fun _ H' => Q .non H', rt := Q } (start N vs) H) : OkF P w K mg base CX0 (k + 1) x ps sp := by
  obtain ⟨f, fd, hm, F, hb⟩ := D
  exact ⟨f, fd, hm, F.kp, hb, F.ok S len (hbody f)⟩
end
section
variable {X : Cx}
theorem pe_c {k k' : Nat} {x : Str} {ps : List Str} {sp : Sp} {e : Expr} {es : List Expr} {t : TA} {p pos : Pos} (O : OkF X.prog X.w X.K X.mg X.base CX0 k x ps sp) (hr : Room k' X.A) (ha : PA X (e :: es) t) (hk : k ≤ k' := by decide) (hg : Gl X x := by rfl)
    (hdb : (x == ("__debug__" : Str)) = false := by decide) (he : starEach (e :: es) X.env = (false, eval e X.env) :: starEach es X.env := by rfl) (hpl : (backTo pos (starEach es X.env)).any (·.1) = false := by rfl) :
    PE X (.Call (.Name x p) (e :: es) [] pos) (tCall sp [] E0 t) := by
  obtain ⟨f, fd, hm, hkp, hb, F⟩ := O
  exact pe_call F (hr.mono hk) hg hm hkp hb .nil pass0 ha hdb he hpl
theorem pe_gi {x : Str} {i : Int} {pos : Pos} (h : ∃ t, X.mg x = some (.int i t)) (hg : Gl X x := by rfl) (hd : (x == ("__debug__" : Str)) = false := by decide) : PE X (.Name x pos) (tC (.int i)) := by
  obtain ⟨t, h⟩ := h
  exact pe_glob hg h ⟨_, rfl⟩ hd
theorem pe_gs {x : Str} {z : Str} {pos : Pos} (h : ∃ t, X.mg x = some (.str z t)) (hg : Gl X x := by rfl) (hd : (x == ("__debug__" : Str)) = false := by decide) : PE X (.Name x pos) (tC (.str z)) := by
  obtain ⟨t, h⟩ := h
  exact pe_glob hg h ⟨_, rfl⟩ hd
end
/-! ### the rules with the written part K named -/
section
variable {X : Cx} (K : PySem.W.Frag)
theorem ix_list_k (h : X.K = K := by rfl) : IxR X (rIxL K) := h ▸ ix_list
theorem ix_tup_k (h : X.K = K := by rfl) : IxR X (rIxT K) := h ▸ ix_tup
theorem sl_list_k (h : X.K = K := by rfl) : SlR X (rSlL K) := h ▸ sl_list
theorem sl_tup_k (h : X.K = K := by rfl) : SlR X (rSlT K) := h ▸ sl_tup
theorem op_in_seq_k (h : X.K = K := by rfl) : OpR X (compareOp .In) (rIn K false) := h ▸ op_in_seq
theorem op_notIn_seq_k (h : X.K = K := by rfl) : OpR X (compareOp .NotIn) (rIn K true) := h ▸ op_notIn_seq
def rLen : List V → Hp → VK → Prop := fun xs H Q => ∃ p ys, xs = [.ref p] ∧ (SqL K H p ys ∨ SqT K H p ys) ∧ Q (.int ys.length) H
theorem call_len_seq_k (h : X.K = K := by rfl) : CallR X (.builtin "len") (rLen K) := h ▸ call_len_seq
def rListOf : List V → Hp → VK → Prop := fun xs H Q => ∃ p ys, xs = [.ref p] ∧ (SqL K H p ys ∨ SqT K H p ys) ∧ ∀ l, H l = none → Q (.ref l) (upd H l (.lst ys))
theorem call_list_of_k (h : X.K = K := by rfl) : CallR X (.type "list") (rListOf K) := h ▸ call_list_of
def rTupOf : List V → Hp → VK → Prop := fun xs H Q => ∃ p ys, xs = [.ref p] ∧ ((SqL K H p ys ∧ ∀ l, H l = none → Q (.ref l) (upd H l (.tup ys))) ∨ (SqT K H p ys ∧ Q (.ref p) H))
theorem call_tuple_of_k (h : X.K = K := by rfl) : CallR X (.type "tuple") (rTupOf K) := h ▸ call_tuple_of
theorem cr_sum_k (hc : X.calm = true) (h : X.K = K := by rfl) : CallR X (.builtin "sum") (rSum K) := h ▸ cr_sum hc
theorem cr_max_k (hc : X.calm = true) (h : X.K = K := by rfl) : CallR X (.builtin "max") (rMax K) := h ▸ cr_max hc
theorem cr_min_k (hc : X.calm = true) (h : X.K = K := by rfl) : CallR X (.builtin "min") (rMin K) := h ▸ cr_min hc
theorem cr_any_k (hc : X.calm = true) (h : X.K = K := by rfl) : CallR X (.builtin "any") (rAny K) := h ▸ cr_any hc
theorem cr_all_k (hc : X.calm = true) (h : X.K = K := by rfl) : CallR X (.builtin "all") (rAll K) := h ▸ cr_all hc
theorem cr_sorted_k (h : X.K = K := by rfl) : CallR X (.builtin "sorted") (rSorted K) := h ▸ cr_sorted
theorem mt_index_k (h : X.K = K := by rfl) : MtR X "list.index" (rIndex K) := h ▸ mt_index
theorem op_eqD_k (hu : X.A.units + 64 < cLine) (h : X.K = K := by rfl) : OpR X (compareOp .Eq) (rEqD K) := h ▸ op_eqD hu
theorem op_neD_k (hu : X.A.units + 64 < cLine) (h : X.K = K := by rfl) : OpR X (compareOp .NotEq) (rNeD K) := h ▸ op_neD hu
theorem call_isi_k (h : X.K = K := by rfl) : CallR X (.builtin "isinstance") (rIsi K) := h ▸ call_isi
theorem call_isiT_k (h : X.K = K := by rfl) : CallR X (.builtin "isinstance") (rIsiT K) := h ▸ call_isiT
theorem op_catT_k (h : X.K = K := by rfl) : OpR X (binaryOp .Add) (rCatT K) := h ▸ op_catT
theorem pi_list_k {tg l : Expr} {tl : TE} (hl : PE X l tl) (h : X.K = K := by rfl) : PI X tg l (iList K tl) := h ▸ pi_list hl
theorem pi_tup_k {tg l : Expr} {tl : TE} (hl : PE X l tl) (h : X.K = K := by rfl) : PI X tg l (iTup K tl) := h ▸ pi_tup hl
theorem pe_revL_k {e : Expr} {te : TE} {k : Nat} {p1 p2 p3 pos : Pos} (he : PE X e te) (h : X.K = K := by rfl) : PE X (.Subscript e (.Slice none none (some (.UnaryOp .USub (.Constant (.int 1) k p1) p2)) p3) pos) (tRevL K te) := h ▸ pe_revL he
theorem pg_tup_k {es : List Expr} {k : Nat} {t : TGs} {n : Nat} {pos : Pos} (hc : X.calm = true) (hg : PGs X es t) (h : X.K = K := by rfl)
    (hn : (assignEach es X.env).length = n := by rfl) (hst : (assignEach es X.env).findIdx? (·.1) = none := by rfl) : PG X (.Tuple es k pos) (gTup K n t) := h ▸ pg_tup hc hg hn hst
def rDictP : List V → Hp → VK → Prop := fun xs H Q => ∃ (a : Addr) (ps : List Addr) (kvs : List (Key × V)), xs = [.ref a] ∧ SqL K H a (ps.map V.ref) ∧ Paired (fun p kv => SqT K H p [kV kv.1, kv.2]) ps kvs ∧
    ∀ p, H p = none → Q (.ref p) (upd H p (.dK (mergeK [] kvs)))
theorem call_dictP_k (hc : X.calm = true) (h : X.K = K := by rfl) : CallR X (.type "dict") (rDictP K) := h ▸ call_dictP hc
theorem u1 {n : Nat} (h : n + 64 < cLine) : n + 1 < cLine := by omega
def rJoin : V → List V → Hp → VK → Prop := fun x xs H Q => ∃ a p, ∃ ys : List Str, x = .str a ∧ xs = [.ref p] ∧ (SqL K H p (ys.map V.str) ∨ SqT K H p (ys.map V.str)) ∧ (ys.map (·.length)).sum + ys.length * a.length ≤ 16777216 ∧ Q (.str (Txt.join a ys)) H
theorem pe_join_k {o e : Expr} {to te : TE} {apos pos : Pos} (ho : PE X o to) (he : PE X e te) (h : X.K = K := by rfl) (hs : starEach [e] X.env = [(false, eval e X.env)] := by rfl) (hbase : attributeBase o "join" X.env (eval o X.env) = eval o X.env := by rfl) (hline : (apos.endLine == pos.line) = true := by rfl) :
    PE X (.Call (.Attribute o "join" apos) [e] [] pos) (tM1 (rJoin K) to te) := h ▸ pe_join ho he hs hbase hline
end
/-! ### heaps -/
/-- all that was tracked, but for what stands at l, is as it was -/
def But (l : Addr) (H H' : Hp) : Prop := ∀ b o, H b = some o → b ≠ l → H' b = some o
theorem But.refl (l : Addr) (H : Hp) : But l H H := fun _ _ h _ => h
theorem But.trans {l : Addr} {H H1 H2 : Hp} (a : But l H H1) (b : But l H1 H2) : But l H H2 := fun c o h n => b c o (a c o h n) n
theorem But.of {l : Addr} {H H1 : Hp} (a : Same H H1) : But l H H1 := fun c o h _ => a c o h
theorem But.upd {l : Addr} {H : Hp} {o : HO} : But l H (upd H l o) := fun b _ h n => by rw [upd_ne n]; exact h
theorem Same.upd {H : Hp} {l : Addr} {o : HO} (h : H l = none) : Same H (upd H l o) := fun b u e => by
  rw [upd_ne (ne_of_none e h)]
  exact e
theorem But.new {l : Addr} {H H1 : Hp} {p : Addr} {o : HO} (a : But l H H1) (h : H1 p = none) : But l H (L2.upd H1 p o) := a.trans (.of (Same.upd h))
theorem Same.new {H H1 : Hp} {p : Addr} {o : HO} (a : Same H H1) (h : H1 p = none) : Same H (L2.upd H1 p o) := a.trans (Same.upd h)
/-- the ends of an if -/
theorem itb {b : Bool} {A B : Prop} (h1 : b = true → A) (h2 : b = false → B) : if b = true then A else B := by
  cases b with
  | true => exact iteT (h1 rfl)
  | false => exact iteF (h2 rfl)
theorem itd {c : Prop} [Decidable c] {A B : Prop} (h1 : c → A) (h2 : ¬ c → B) : if decide c = true then A else B := itb (fun h => h1 (of_decide_eq_true h)) fun h => h2 (of_decide_eq_false h)
theorem itnd {c : Prop} [Decidable c] {A B : Prop} (h1 : ¬ c → A) (h2 : c → B) : if (!decide c) = true then A else B := itb (fun h => h1 (by simpa using h)) fun h => h2 (by simpa using h)
/-! ### readings, step by step -/
section
variable {σ : L2.St} {H : Hp} {D : Ends} {t1 t2 : TS} {te : TE} {i : Nat} {c : TT}
theorem s_seq (h : t1 { D with nx := t2 D } σ H) : tSeq t1 t2 D σ H := h
theorem s_set (h : te σ H fun v H' => D.nx (σ.set i (some v)) H') : tAsg te (gName i) D σ H := h
theorem s_ret (h : te σ H D.rt) : tRet te D σ H := h
theorem s_if (h : c σ H fun b H' => if b = true then t1 D σ H' else t2 D σ H') : tIfS c t1 t2 D σ H := h
theorem s_op {r : R2} {ta tb : TE} {Q : VK} (h : ta σ H fun x H1 => tb σ H1 fun y H2 => r x y H2 Q) : tOp r ta tb σ H Q := h
theorem s_nx (h : D.nx σ H) : tNext D σ H := h
end
end Dear

namespace Dear
open PySem PySem.Spec PyProof.Rows L2
/-! ### an exception that is caught, kept in a name, and asked behind the suite -/
/-- a kept exception at a: its class, its own dict -/
def ExK (cls : Value) (d : Option Addr) (a : Addr) : HO := .ext fun h => ∃ (oe : Obj) (vs : Array Value), h.get? a = some oe ∧ Zc cls d oe ∧ oe.data = .fields vs
theorem exK_ok {P : Program} {w : World} {H : Hp} {h : Heap} {a : Addr} {cls : Value} {d : Option Addr} {oe : Obj} {vs : Array Value} (e : h.get? a = some oe) (z : Zc cls d oe) (dt : oe.data = .fields vs) : ObjOk P w H h a (ExK cls d a) :=
  ⟨⟨oe, vs, e, z, dt⟩, ⟨oe, e⟩, fun _ _ ⟨o, v, q, r⟩ k => ⟨o, v, k o q, r⟩⟩
section
variable {X : Cx} {pins : List (Addr × Obj)} {σ : L2.St} {H : Hp} {s : Shared}
/-- an object that stands there untracked, new since the entry, becomes tracked -/
theorem track (I : Inv X pins σ H s) {a : Addr} {o : HO} {oe : Obj} (he : s.heap.get? a = some oe) (na : H a = none) (n0 : X.s_0.heap.get? a = none) (nL : a ≠ X.env.locals) (nC : ∀ v, oe.data ≠ .cell v)
    (nP : ∀ p ∈ X.pn ++ pins, p.1 ≠ a) (new : ObjOk X.prog X.w (upd H a o) s.heap a o) : Inv X pins σ (upd H a o) s where
  ok := I.ok
  os := I.os
  bare := I.bare
  base := {
    keep := I.base.keep
    slot := I.base.slot
    free := fun b u q n hx => by
      rw [upd_ne fun z => by rw [z, n0] at q; cases q]
      exact I.base.free b u q n hx
    there := I.base.there
    tups := fun b xs q => by
      have z := I.base.tups b xs q
      rw [upd_ne (ne_of_none z na)]
      exact z
    frzs := fun b u v q => by
      have z := I.base.frzs b u v q
      rw [upd_ne (ne_of_none z na)]
      exact z
    tbls := fun b ps q => by
      obtain ⟨m, z⟩ := I.base.tbls b ps q
      exact ⟨m, by rw [upd_ne (ne_of_none z na)]; exact z⟩ }
  loc := I.loc
  cell := I.cell
  free := by rw [upd_ne (Ne.symm nL)]; exact I.free
  freeC := fun x c e => by
    have ne : c ≠ a := fun z => by
      obtain ⟨v, ob, q, dq⟩ := I.cell x c e
      rw [z, he] at q
      cases q
      exact nC v dq
    rw [upd_ne ne]
    exact I.freeC x c e
  pin := fun p hp => by
    obtain ⟨p1, p2, p3⟩ := I.pin p hp
    exact ⟨p1, by rw [upd_ne (nP p hp)]; exact p2, p3⟩
  hok := fun b u e => by
    by_cases hb : b = a
    · subst hb
      rw [upd_same] at e
      cases e
      exact new
    · rw [upd_ne hb] at e
      exact (I.hok b u e).stay (fun _ _ _ q => q) (fun c q => by rw [upd_ne (ne_of_none q na)]; exact q) fun c xs q => by rw [upd_ne (ne_of_none q na)]; exact q
  len := I.len
end
/-- what «except x as n: y = n» wishes of an exception of the body: n's slot is i, y's is j; behind it the exception stands tracked -/
def wKept (K : PySem.W.Frag) (c : Value) (i j : Nat) (Wout : WX) (D : Ends) : WX := fun cls d σ H =>
  ∃ b, PySem.W.exmOne K cls c = some b ∧ (b = true → ∀ a, H a = none → D.nx (((σ.set i (some (.ref a))).set j (some (.ref a))).set i none) (upd H a (ExK cls d a))) ∧ (b = false → Wout cls d σ H)
section
variable {X : Cx} {x n y : Str} {c : Value} {i j : Nat} {body : List Stmt} {np pos pos2 p3 p4 p5 : Pos} {tb : WX → TS} {Wout : WX}
theorem ps_try_kept (hs : X.stack = X.env :: X.outer) (hf : X.env.frame = some X.env.locals) (hex : X.ex = []) (hN : X.N.Nodup) (hi : X.N[i]? = some n) (hj : X.N[j]? = some y) (hij : i ≠ j) (hln : X.env.kindOf n = some .local) (hly : X.env.kindOf y = some .local) (hc : Names X x c) (tk : Takes X Wout)
    (hb : ∀ (W : WX) (pn : List (Addr × Obj)) (xe : Value → Shared → Prop), Takes (X.tr pn xe) W → PassesOwn (model X.prog X.w) X.A X.env xe → PSs (X.tr pn xe) body (tb W))
    (hdn : (n == ("__debug__" : Str)) = false := by decide) (hcd : (n == ("__classdict__" : Str)) = false := by decide) :
    PS X (.Try body [.ExceptHandler (some (.Name x np)) (some n) [.Assign [.Name y p3] (.Name n p4) p5] pos2] [] [] pos) (fun D σ H => tb (wKept X.K c i j Wout D) D σ H) := by
  refine ⟨fun pins s σ H D I h => ?_⟩
  have ok := I.ok
  have frames : X.A.frames = some (X.env :: X.outer) := by rw [ok.frames, hs]
  refine wpAny_Try_except (wpAny_mono ((hb (wKept X.K c i j Wout D) (X.pn ++ pins) _ (fun u s1 air => ?_) PassesOwn.looking).run [] s σ H D (I.toTry _) h) (fun f s1 done => ?_) fun _ _ z => z)
  · obtain ⟨a, B, sI, pins', σ1, H1, cls, d, rfl, J1, nb, up, sky, na, os, ag, b, hm, yes, no⟩ := air
    have J : Inv X pins σ1 H1 sI := J1.ofTry ok
    rw [show X.stack = X.env :: X.outer from hs] at sky
    refine Sky.land Zc.steady frames hf sky fun h3 fl3 up3 => ?_
    have J3 : Inv X pins σ1 H1 { s1 with heap := h3 } := J.landed nb fl3.1 (up.trans up3) os ag
    obtain ⟨oe3, vs3, he3, hz3, hd3⟩ := fl3.there
    have nfr : a ∉ frs (X.env :: X.outer) := fun hm => by
      obtain ⟨_, o', e', hnf⟩ := fl3.2.2.1.mem hm
      rw [he3] at e'
      cases e'
      exact hnf _ hd3
    have nL : a ≠ X.env.locals := fun z => nfr (List.mem_filterMap.mpr ⟨X.env, List.mem_cons_self, by rw [hf, z]⟩)
    have nF : a ∉ X.fs := fun hm => by
      obtain ⟨e, he, q⟩ := List.mem_filterMap.mp hm
      exact nfr (List.mem_filterMap.mpr ⟨e, List.mem_cons_of_mem _ he, q⟩)
    -- it is new: neither there at the entry nor pinned
    have gone : ∀ o, sI.heap.get? a ≠ some o := fun o q => by
      have z := nb a o q (by rw [hs]; exact nfr)
      rw [fl3.2.1] at z
      cases z
    have n0 : X.s_0.heap.get? a = none := by
      cases q : X.s_0.heap.get? a with
      | none => rfl
      | some o =>
        obtain ⟨o', q'⟩ := J.base.there a o q (by rw [hex]; simp)
        exact absurd q' (gone o')
    have nP : ∀ p ∈ X.pn ++ pins, p.1 ≠ a := fun p hp z => gone p.2 (z ▸ (J.pin p hp).1)
    have S3 := J3.suite he3 hd3 na nL nF
    refine wpAny_handleBy_cons (codeAny_handlers_test ?_) (by intro q; cases q)
    have LT : PySem.W.Looks (model X.prog X.w) h3 (typeOf (.ref a)) cls := fun _ _ _ _ k q => wpAny_typeOf_ref (k _ _ he3) (by rw [hz3.1]; exact q)
    have LM := PySem.W.exm_one (M := model X.prog X.w) J3.kIn LT hm
    have named : ∀ {Q : Value → Shared → Prop} {E : Value → Shared → Prop}, Q c { s1 with heap := h3 } → wpAny (model X.prog X.w) (X.A.mark (some (.ref a))) (eval (.Name x np) X.env) Q E { s1 with heap := h3 } := fun {Q E} q => by
      obtain ⟨hg, hdbg, hm | ⟨hm, hv, hnn⟩⟩ := hc
      · exact ld_glob (X := X.suite a ((a, oe3) :: (X.pn ++ pins))) S3 hg hm q hdbg
      · exact ld_blt (X := X.suite a ((a, oe3) :: (X.pn ++ pins))) S3 hg hm hv q hnn hdbg
    refine named (LM.here ?_)
    cases b with
    | true =>
      refine codeAny_handlers_suite_as (HandSPX.lands_againZ fl3 fun h4 fl4 up4 => ?_)
      have J4 : Inv X pins σ1 H1 { s1 with heap := h4 } := J.landed nb fl4.1 ((up.trans up3).trans up4) os ag
      obtain ⟨oe4, vs4, he4, hz4, hd4⟩ := fl4.there
      refine store_ok (X := X.suite a ((a, oe4) :: (X.pn ++ pins))) (v := .ref a) (J4.suite he4 hd4 na nL nF) hN hi (.inl hln) rfl (fun s5 S5 => ?_) (.inr hln)
      have suite : PSs (X.suite a ((a, oe4) :: (X.pn ++ pins))) [.Assign [.Name y p3] (.Name n p4) p5] (tAsg (tVar i) (gName j)) := pss_one (ps_set hN hj (.inl hly) (pe_var hi (.inl hln) hdn hcd) (hf := .inr hly))
      have len1 : i < σ1.length := by
        rw [J.len]
        exact (List.getElem?_eq_some_iff.mp hi).1
      refine wpAny_mono (suite.run [] s5 _ H1 { nx := fun σ' H' => σ' = (σ1.set i (some (.ref a))).set j (some (.ref a)) ∧ H' = H1, rt := fun _ _ => False } S5 ⟨.ref a, by rw [List.getElem?_set_self len1], rfl, rfl⟩) (fun f s6 done => ?_) fun _ _ z => z.elim
      cases f with
      | next =>
        obtain ⟨σ6, H6, S6, rfl, rfl⟩ := done
        have he6 := (S6.pin (a, oe4) (List.mem_append_left _ List.mem_cons_self)).1
        refine gone_ok (track (S6.unsuite ok) (o := ExK cls d a) he6 na n0 nL (fun v q => by rw [hd4] at q; cases q) nP (exK_ok he6 hz4 hd4)) hN hi hln fun s7 J7 => ⟨_, _, J7, yes rfl a na⟩
      | brk =>
        obtain ⟨_, _, _, z⟩ := done
        exact z.elim
      | cont =>
        obtain ⟨_, _, _, z⟩ := done
        exact z.elim
      | ret u =>
        obtain ⟨_, _, _, _, _, z⟩ := done
        exact z.elim
    | false =>
      show wpAny _ X.A (handleBy (.ref a) X.env []) _ _ _
      refine wpAny_handleBy_nil ?_
      obtain ⟨_, _, _, oe, vs, T, _, _, he, _, hd, h1, _⟩ := id fl3
      unfold PySem.passOn
      refine wpAny_bind (wpAny_field he hd h1 ?_)
      rw [if_neg (show ¬ ((Value.ref T == Value.none) = true) from by simp)]
      have fin : wpAny (model X.prog X.w) X.A (setFlight (.ref a) X.env.frame) (fun _ s4 => wpAny (model X.prog X.w) X.A (throw (.ref a) : Sem Flow) (SP X pins D) X.xe s4) X.xe { s1 with heap := h3 } := by
        rw [hf]
        exact HandSPX.setFlight_upZ fl3 fun h4 hh4 up4 => wpAny_throw (tk _ _ ⟨a, B, sI, pins, σ1, H1, cls, d, rfl, J, nb, (up.trans up3).trans up4, .inr (.inr (by rw [hs]; exact hh4)), na, os, ag, no rfl⟩)
      first
        | exact wpAny_bind (wpAny_pure (wpAny_bind fin))
        | exact wpAny_bind fin
  · cases f with
    | next =>
      obtain ⟨σ', H', J', q⟩ := done
      exact wpAny_execs_nil ⟨σ', H', J'.ofTry ok, q⟩
    | brk =>
      obtain ⟨σ', H', J', q⟩ := done
      exact ⟨σ', H', J'.ofTry ok, q⟩
    | cont =>
      obtain ⟨σ', H', J', q⟩ := done
      exact ⟨σ', H', J'.ofTry ok, q⟩
    | ret u =>
      obtain ⟨v, σ', H', J', r, q⟩ := done
      exact ⟨v, σ', H', J'.ofTry ok, r, q⟩
end
/-! ### isinstance of a kept exception -/
/-- the object as the library's rules want it -/
theorem instAt_kept {h : Heap} {a D : Addr} {oe : Obj} {vs : Array Value} (e : h.get? a = some oe) (z : Zc (.ref D) none oe) (d : oe.data = .fields vs) : PySem.W.InstAt h a oe D none := by
  obtain ⟨oc, od, oda, osl⟩ := oe
  obtain ⟨h1, h2⟩ := z
  dsimp only at h1 h2 d
  subst h1 h2 d
  exact ⟨e, rfl, rfl, trivial⟩
def rIsX (K : PySem.W.Frag) : List V → Hp → VK → Prop := fun xs H Q => ∃ (a D : Addr) (c : V) (u : Value) (b : Bool), xs = [.ref a, c] ∧ H a = some (ExK (.ref D) none a) ∧ ExcC K D ∧ ClsV c u ∧ PySem.W.kitOne K (.ref D) u = some b ∧ Q (.bl b) H
def rIsXT (K : PySem.W.Frag) : List V → Hp → VK → Prop := fun xs H Q => ∃ (a D tp : Addr) (cs : List V) (us : List Value) (b : Bool), xs = [.ref a, .ref tp] ∧ H a = some (ExK (.ref D) none a) ∧ ExcC K D ∧ H tp = some (.tup cs) ∧ Paired ClsV cs us ∧ PySem.W.kitAny K (.ref D) us = some b ∧ Q (.bl b) H
section
variable {X : Cx} (K : PySem.W.Frag)
theorem call_isX_k (hk : X.K = K := by rfl) : CallR X (.builtin "isinstance") (rIsX K) := by
  subst hk
  intro pins s σ H xs us Q I r h
  obtain ⟨a, D, c, u, b, rfl, ha, C, k, e, q⟩ := h
  obtain ⟨u1, u2, rfl, r1, r2⟩ := vals2 r
  have e2 := k.eq r2
  subst e2
  cases r1
  obtain ⟨⟨oe, vs, he, hz, hd⟩, _⟩ := I.hok a _ ha
  exact PySem.W.kia_one (PySem.W.handS_kitx_exc C.hg C.hk C.hs C.hd C.ha C.hn C.ht C.hm) I.kIn (instAt_kept he hz hd) e (fun z => nomatch z) fun tk => ⟨.bl b, H, I.tok tk, rfl, q⟩
theorem call_isXT_k (hk : X.K = K := by rfl) : CallR X (.builtin "isinstance") (rIsXT K) := by
  subst hk
  intro pins s σ H xs us Q I r h
  obtain ⟨a, D, tp, cs, ws, b, rfl, ha, C, hT, k, e, q⟩ := h
  obtain ⟨u1, u2, rfl, r1, r2⟩ := vals2 r
  cases r1
  cases (show u2 = Value.ref tp from r2)
  obtain ⟨⟨oe, vs, he, hz, hd⟩, _⟩ := I.hok a _ ha
  obtain ⟨_, its, rv, o, h1, h2, n, h3⟩ := (show ObjOk X.prog X.w H s.heap tp (.tup cs) from I.hok tp _ hT)
  have e3 := ClsV.all k rv
  subst e3
  obtain ⟨oc, od, dt, sl⟩ := o
  simp only at h2 h3
  subst h2 h3
  exact PySem.W.kia_tup (PySem.W.handS_kitx_exc C.hg C.hk C.hs C.hd C.ha C.hn C.ht C.hm) I.kIn (instAt_kept he hz hd) h1 e (fun z => nomatch z) fun tk => ⟨.bl b, H, I.tok tk, rfl, q⟩
end
/-! ### facts of own exception classes, calls of defs that raise, defs with defaults -/
/-- an own exception class over ValueError, without an own __init__ -/
structure ExOwn (K : PySem.W.Frag) (mg : Str → Option Value) (x : Str) (C : Addr) : Prop where
  g : mg x = some (.ref C)
  x : PySem.W.excIn K C [.type "ValueError", .type "Exception", .type "BaseException", .type "object"] "ValueError.__new__" = true
  k : PySem.W.keepIn K (.ref C) = true
  b : PySem.W.subIn K (.ref C) (.type "BaseException") = some true
  t : PySem.W.typeIn K (.ref C) = some (.type "type")
  c : ExcC K C
theorem kit_ref {K : PySem.W.Frag} {A C : Addr} {b : Bool} (n : (Value.ref A == Value.ref C) = false) (i : PySem.W.isClsIn K C = true) (t : PySem.W.typeIn K (.ref C) = some (.type "type")) (q : PySem.W.subIn K (.ref A) (.ref C) = some b) : PySem.W.kitOne K (.ref A) (.ref C) = some b := by
  unfold PySem.W.kitOne
  rw [if_neg (by rw [n]; exact Bool.false_ne_true)]
  have i' : (PySem.W.clsIn K C).isSome = true := i
  show (if ((PySem.W.clsIn K C).isSome && PySem.W.typeIn K (.ref C) == some (.type "type")) = true then PySem.W.subIn K (.ref A) (.ref C) else none) = some b
  rw [i', t, if_pos (by simp)]
  exact q
theorem kit_self {K : PySem.W.Frag} {C : Addr} : PySem.W.kitOne K (.ref C) (.ref C) = some true := by
  unfold PySem.W.kitOne
  rw [if_pos (by simp)]
theorem kit_val {K : PySem.W.Frag} {A : Addr} (q : PySem.W.subIn K (.ref A) (.type "ValueError") = some true) : PySem.W.kitOne K (.ref A) (.type "ValueError") = some true := by
  unfold PySem.W.kitOne
  rw [if_neg (by simp)]
  have m : PySem.W.kitMeta "ValueError" = true := by decide +kernel
  show (if PySem.W.kitMeta "ValueError" = true then PySem.W.subIn K (.ref A) (.type "ValueError") else none) = some true
  rw [if_pos m]
  exact q
theorem exm_ref2 {K : PySem.W.Frag} {A C : Addr} {b : Bool} (h1 : PySem.W.subIn K (.ref C) (.type "BaseException") = some true) (i : PySem.W.isClsIn K C = true) (t : PySem.W.typeIn K (.ref C) = some (.type "type")) (q : PySem.W.subIn K (.ref A) (.ref C) = some b) : PySem.W.exmOne K (.ref A) (.ref C) = some b := by
  have i' : (PySem.W.clsIn K C).isSome = true := i
  show (if (PySem.W.subIn K (.ref C) (.type "BaseException") == some true) = true then (if ((PySem.W.clsIn K C).isSome && PySem.W.typeIn K (.ref C) == some (.type "type")) = true then PySem.W.subIn K (.ref A) (.ref C) else none) else none) = some b
  rw [h1, i', t, if_pos (by simp), if_pos (by simp)]
  exact q
/-- none of some classes -/
theorem kit_none {K : PySem.W.Frag} {t : Value} : ∀ {us : List Value}, (∀ u ∈ us, PySem.W.kitOne K t u = some false) → PySem.W.kitAny K t us = some false
  | [], _ => rfl
  | u :: us, h => kitAny_cons (h u List.mem_cons_self) (fun _ => kit_none fun x hx => h x (List.mem_cons_of_mem _ hx)) (fun z => by cases z)
theorem cls_all : ∀ {cs : List Addr}, Paired ClsV (cs.map V.ref) (cs.map Value.ref)
  | [] => .nil
  | c :: _ => .cons (.own c) cls_all
/-- a def with defaults dvs, and with its promise -/
def DfD (K : PySem.W.Frag) (mg : Str → Option Value) (x : Str) (st : Stmt) (ps : List Str) (dvs : List V) : Prop :=
  ∃ (f : Addr) (fd : FuncData), mg x = some (.ref f) ∧ FunD K x x (defArgs st) (defBody st) (defScope st) dvs [] f fd ∧ (∃ ds, Vals dvs ds ∧ Binds K fd ps ds) ∧ Binds K fd ps []
def OkD (P : Program) (w : World) (K : PySem.W.Frag) (mg : Str → Option Value) (base : Heap) (CX : CXT) (k : Nat) (x : Str) (ps : List Str) (dvs : List V) (sp : Sp) : Prop :=
  ∃ (f : Addr) (fd : FuncData), mg x = some (.ref f) ∧ PySem.W.keepIn K (.ref f) = true ∧ (∃ ds, Vals dvs ds ∧ Binds K fd ps ds) ∧ Binds K fd ps [] ∧ FnOk P w K mg base CX k f fd ps sp
theorem dfD_mk {K : PySem.W.Frag} {mg : Str → Option Value} {x : Str} {st : Stmt} {ps : List Str} {dvs : List V} {f T : Addr} {oc oC kV dc pm cd ct : Value} {od oD an : Option Addr} {sl sD : Array (Option Value)} {its : List Value} {n : Nat}
    (hm : mg x = some (.ref f)) (l : K.lookup f = some ⟨oc, od, .func (PySem.W.fnOf x x (defArgs st) (defBody st) (defScope st) (.ref T) kV dc pm an cd ct), sl⟩) (c : PySem.W.codeIn K cd x = true) (k : PySem.W.keepIn K (.ref f) = true)
    (d : K.lookup T = some ⟨oC, oD, .seq its.toArray n, sD⟩) (r : Vals dvs its) (hd : dvs ≠ []) {m : Nat} (hn : m + dvs.length = ps.length) (hz : dvs.drop dvs.length = [])
    (h1 : ∀ (T : Addr) (kV doc pm : Value) (an : Option Addr) (cdv ct : Value) (us its : List Value), us.length = m → its.length = dvs.length →
      ∃ k, bindArgs (PySem.W.fnOf x x (defArgs st) (defBody st) (defScope st) (.ref T) kV doc pm an cdv ct) ⟨us, []⟩ = seqItems? (.ref T) >>= k ∧ k (some its.toArray) = pure (ps.zip (us ++ its.drop 0)))
    (h2 : ∀ (T : Addr) (kV doc pm : Value) (an : Option Addr) (cdv ct : Value) (us its : List Value), us.length = ps.length → its.length = dvs.length →
      ∃ k, bindArgs (PySem.W.fnOf x x (defArgs st) (defBody st) (defScope st) (.ref T) kV doc pm an cdv ct) ⟨us, []⟩ = seqItems? (.ref T) >>= k ∧ k (some its.toArray) = pure (ps.zip (us ++ its.drop dvs.length))) : DfD K mg x st ps dvs := by
  have F : FunD K x x (defArgs st) (defBody st) (defScope st) dvs [] f (PySem.W.fnOf x x (defArgs st) (defBody st) (defScope st) (.ref T) kV dc pm an cd ct) :=
    ⟨⟨oc, od, .ref T, kV, dc, pm, an, cd, ct, sl, rfl, l, c, .inr ⟨hd, T, _, its, n, rfl, d, rfl, r⟩, .inl rfl⟩, k⟩
  refine ⟨f, _, hm, F, F.binds1 m 0 hd (by omega) h1, ?_⟩
  obtain ⟨ds, v, b⟩ := F.binds1 ps.length dvs.length hd (by omega) h2
  rw [hz] at v
  cases v
  exact b
section
variable {P : Program} {w : World} {K : PySem.W.Frag} {mg : Str → Option Value} {base : Heap}
theorem DfD.ok {CX : CXT} {x : Str} {st : Stmt} {N ps : List Str} {dvs : List V} {k : Nat} {sp : Sp} (D : DfD K mg x st ps dvs) (S : FnScope N ps (defScope st)) (len : ∀ vs H Q E, sp vs H Q E → vs.length = ps.length)
    (hbody : ∀ (f : Addr) (cdv : Value) (A : Around) (outer : List Env) (s : Shared) (H : Hp) (vs : List V) (Q : VK) (E : XK), Room k (A.deeper (envOfC x (defScope st) s.heap.objs.size f cdv)) → sp vs H Q E →
      ∃ t, PSs (cxOf CX P w K mg base N x (defScope st) f cdv A outer s H E) (defBody st) t ∧ t { nx := fun _ H' => Q .non H', rt := Q } (start N vs) H) : OkD P w K mg base CX (k + 1) x ps dvs sp := by
  obtain ⟨f, fd, hm, F, hb, hb0⟩ := D
  exact ⟨f, fd, hm, F.kp, hb, hb0, F.ok S len (hbody f)⟩
/-- a def that may raise -/
theorem Df.okX {x : Str} {st : Stmt} {N ps : List Str} {k : Nat} {sp : Sp} (D : Df K mg x st ps) (S : FnScope N ps (defScope st)) (len : ∀ vs H Q E, sp vs H Q E → vs.length = ps.length)
    (hbody : ∀ (f : Addr) (cdv : Value) (A : Around) (outer : List Env) (s : Shared) (H : Hp) (vs : List V) (Q : VK) (E : XK), Room k (A.deeper (envOfC x (defScope st) s.heap.objs.size f cdv)) → sp vs H Q E →
      ∃ t, PSs (cxOf (L2.CX P w) P w K mg base N x (defScope st) f cdv A outer s H E) (defBody st) t ∧ t { nx := fun _ H' => Q .non H', rt := Q } (start N vs) H) : OkF P w K mg base (L2.CX P w) (k + 1) x ps sp := by
  obtain ⟨f, fd, hm, F, hb⟩ := D
  exact ⟨f, fd, hm, F.kp, hb, F.okX S len (hbody f)⟩
end
section
variable {X : Cx} {k k' : Nat} {x : Str} {ps : List Str} {sp : Sp} {e : Expr} {es : List Expr} {t : TA} {p pos : Pos} {W : WX} {dvs : List V}
/-- f(e, ..) where f may raise -/
theorem pe_cx (O : OkF X.prog X.w X.K X.mg X.base (L2.CX X.prog X.w) k x ps sp) (hr : Room k' X.A) (tk : Takes X W) (ha : PA X (e :: es) t) (hk : k ≤ k' := by decide) (hg : Gl X x := by rfl)
    (hdb : (x == ("__debug__" : Str)) = false := by decide) (he : starEach (e :: es) X.env = (false, eval e X.env) :: starEach es X.env := by rfl) (hpl : (backTo pos (starEach es X.env)).any (·.1) = false := by rfl) :
    PE X (.Call (.Name x p) (e :: es) [] pos) (tCallS sp (WE W) t) := by
  obtain ⟨f, fd, hm, hkp, hb, F⟩ := O
  exact pe_callS F (hr.mono hk) hg hm hkp hb (fun σ => passAt tk σ) ha hdb he hpl
/-- the same, f with defaults, all arguments written -/
theorem pe_cxn (O : OkD X.prog X.w X.K X.mg X.base (L2.CX X.prog X.w) k x ps dvs sp) (hr : Room k' X.A) (tk : Takes X W) (ha : PA X (e :: es) t) (hk : k ≤ k' := by decide) (hg : Gl X x := by rfl)
    (hdb : (x == ("__debug__" : Str)) = false := by decide) (he : starEach (e :: es) X.env = (false, eval e X.env) :: starEach es X.env := by rfl) (hpl : (backTo pos (starEach es X.env)).any (·.1) = false := by rfl) :
    PE X (.Call (.Name x p) (e :: es) [] pos) (tCallS sp (WE W) t) := by
  obtain ⟨f, fd, hm, hkp, _, hb, F⟩ := O
  exact pe_callS F (hr.mono hk) hg hm hkp hb (fun σ => passAt tk σ) ha hdb he hpl
/-- the same, the defaults fill up -/
def tCallD (sp : Sp) (dvs : List V) (E : L2.St → XK) (t : TA) : TE := fun σ H Q => t σ H fun vs H1 => sp (vs ++ dvs) H1 Q (E σ)
theorem pe_cxd (O : OkD X.prog X.w X.K X.mg X.base (L2.CX X.prog X.w) k x ps dvs sp) (hr : Room k' X.A) (tk : Takes X W) (ha : PA X (e :: es) t) (hk : k ≤ k' := by decide) (hg : Gl X x := by rfl)
    (hdb : (x == ("__debug__" : Str)) = false := by decide) (he : starEach (e :: es) X.env = (false, eval e X.env) :: starEach es X.env := by rfl) (hpl : (backTo pos (starEach es X.env)).any (·.1) = false := by rfl) :
    PE X (.Call (.Name x p) (e :: es) [] pos) (tCallD sp dvs (WE W) t) := by
  obtain ⟨f, fd, hm, hkp, ⟨ds, hv, hb⟩, _, F⟩ := O
  refine ⟨fun pins s σ H Q I h => ?_⟩
  refine wpAny_Call_Name_kw (ld_glob I hg hm ?_ hdb)
  refine PySem.W.callWith_K (h₀ := X.base) I.ok.mod.kin hkp (thn (ha.run pos pins s σ H _ I h) fun us s1 ⟨vs, H1, I1, r, q⟩ => ⟨I1.kIn, ?_⟩) he hpl
  have hl : (vs ++ dvs).length = ps.length := F.len _ _ _ _ q
  have b := hb s1 us I1.kIn (by rw [← hl, List.length_append, List.length_append, r.length, hv.length])
  refine wpAny_call (codeAny_mono (F.run X.A X.stack s1 H1 ⟨us, []⟩ (us ++ ds) (vs ++ dvs) Q (WE W σ) (hr.mono hk) I1.env0 b (r.append hv) q) fun rr s2 hq => ?_)
  cases rr with
  | error e => exact passAt tk σ pins H1 s1 e s2 I1 hq
  | ok fl =>
    cases fl with
    | ret u => exact I1.after hq
    | next => exact False.elim hq
    | brk => exact False.elim hq
    | cont => exact False.elim hq
end
end Dear

namespace Dear
open PySem PySem.Spec PyProof.Rows L2
/-! ### own exceptions with an own __init__: X(DearError), DearError.__init__(self, f'..{f}'), self.f = f -/
/-- what may stand in such a field -/
def FmtV (v : V) : Prop := v = .non ∨ (∃ y : Str, v = .str y ∧ y.length ≤ 900) ∨ ∃ i : Int, v = .int i ∧ i.natAbs < 2 ^ 64
theorem int_len {i : Int} (h : i.natAbs < 2 ^ 64) : (Str.ofString (toString i)).length ≤ 900 ∧ i.natAbs.log2 < 1920 := by
  constructor
  · have e := int_text_length_le10 (k := 30) (a := i) (by decide) (Nat.lt_of_lt_of_le h (by decide))
    rw [PySem.ofString_length]
    omega
  · have e : i.natAbs.log2 < 64 := PySem.Flt.log2_lt_of (by decide) h
    omega
section
variable {X : Cx}
/-- {x} of None, a text, a number: some short text -/
def tFmtN (te : TE) : TE := fun σ H Q => te σ H fun x H1 => FmtV x ∧ ∀ z : Str, z.length ≤ 900 → Q (.str z) H1
theorem pe_fmtN {e : Expr} {te : TE} {pos : Pos} (he : PE X e te) : PE X (.FormattedValue e (-1) none pos) (tFmtN te) := by
  refine ⟨fun pins s σ H Q I h => wpAny_FormattedValue_plain (thn (he.run pins s σ H _ I h) fun v s1 hv => ?_)⟩
  obtain ⟨x, H1, J, r, hx, q⟩ := hv
  rcases hx with e | ⟨y, e, hy⟩ | ⟨i, e, hi⟩
  · subst e
    cases (show v = Value.none from r)
    exact wpAny_formatField_none ⟨.str "None", H1, (J.tok _), ⟨_, rfl⟩, q _ (by decide +kernel)⟩
  · subst e
    obtain ⟨t, e⟩ := r
    subst e
    have q' := q y hy
    exact wpAny_formatField_str ⟨.str y, H1, J, ⟨t, rfl⟩, q'⟩ ⟨.str y, H1, J.tok _, ⟨_, rfl⟩, q'⟩ (Nat.le_trans hy (by decide))
  · subst e
    obtain ⟨t, e⟩ := r
    subst e
    exact wpAny_formatField_int (int_len hi).2 ⟨.str (Str.ofString (toString i)), H1, J.tok _, ⟨_, rfl⟩, q _ (int_len hi).1⟩
end
/-- C.__init__ of an own exception class without an own one is ValueError's -/
structure DrI (K : PySem.W.Frag) (mg : Str → Option Value) (x : Str) (C : Addr) : Prop where
  g : mg x = some (.ref C)
  s : PySem.W.specialIn K (.ref C) "__getattribute__" = some (some (.builtin "type.__getattribute__"))
  r : PySem.W.readsIn K C (.type "type") = true
  v : PySem.W.findCls K (.ref C) (.type "type") "__init__" = some (.val (.builtin "ValueError.__init__"))
section
variable {X : Cx}
theorem pe_drinit {e : Expr} {es : List Expr} {ta : TA} {x : Str} {C0 : Addr} {pl : Sem Bool} {p1 p2 pos : Pos} (T : DrI X.K X.mg x C0) (ha : PA X (e :: es) ta) (hg : Gl X x := by rfl) (hdb : (x == ("__debug__" : Str)) = false := by decide)
    (hc : eval (.Call (.Attribute (.Name x p1) "__init__" p2) (e :: es) [] pos) X.env = (do
      let o9 ← eval (.Name x p1) X.env
      standAt p2.atName
      let (f9, r9) ← holding [o9] (getMethod o9 "__init__" pl)
      callWith pos f9 r9 (backTo pos (starEach (e :: es) X.env)) (backToKw pos (keywordEach [] X.env))) := by rfl)
    (he : starEach (e :: es) X.env = (false, eval e X.env) :: starEach es X.env := by rfl) (hpl : (backTo pos (starEach es X.env)).any (·.1) = false := by rfl) :
    PE X (.Call (.Attribute (.Name x p1) "__init__" p2) (e :: es) [] pos) (tVeI X.K ta) := by
  refine ⟨fun pins s σ H Q I h => PySem.W.methodCall_KW (ld_glob I hg T.g ?_ hdb) hc⟩
  refine PySem.W.method_cls I.kIn T.s (PySem.W.cls_value I.kIn T.r T.v (by decide +kernel) ?_)
  show wpAny (model X.prog X.w) X.A (callWith pos (Value.builtin "ValueError.__init__") [] (backTo pos (starEach (e :: es) X.env)) []) _ _ _
  refine PyProof.Rows.callWith_method1 (thn (ha.run pos pins _ σ H _ (I.tok _) h) fun us s1 hh => ?_) he hpl
  obtain ⟨vs, H1, J, r, a, C, ws, ev, hl, O, ea, q⟩ := hh
  subst ev
  cases r with
  | @cons _ u0 _ ur ra rr =>
    cases (show u0 = Value.ref a from ra)
    exact oinit_ok O J ea (by rw [← Paired.length rr]; exact Nat.le_trans hl (by decide)) fun s' J' => ⟨.non, H1, J', rfl, q⟩
end
/-- the promise of such an __init__ -/
def spExI (f : Str) (K : PySem.W.Frag) : Sp := fun vs H Q _ => ∃ (a C : Addr) (v : V), vs = [.ref a, v] ∧ OexC K C ∧ PySem.W.findIn K (.ref C) f = some none ∧ H a = some (exo a C none) ∧ FmtV v ∧
  ∀ dx, H dx = none → dx ≠ a → Q .non (upd (upd H dx (exd dx [(f, v)])) a (exo a C (some dx)))
/-- what the written part says of the class at C -/
structure ExInit (K : PySem.W.Frag) (mg : Str → Option Value) (x f : Str) (C : Addr) : Prop where
  g : mg x = some (.ref C)
  o : OexC K C
  n : PySem.W.findIn K (.ref C) f = some none
  c : ExcC K C
def OkI (P : Program) (w : World) (K : PySem.W.Frag) (mg : Str → Option Value) (base : Heap) (x f : Str) (C : Addr) : Prop :=
  ∃ (fI : Addr) (fd : FuncData), PySem.W.findIn K (.ref C) "__init__" = some (some (.ref fI)) ∧ PySem.W.typeIn K (.ref fI) = some (.type "function") ∧ FnOk P w K mg base CX0 1 fI fd ["self", f] (spExI f K) ∧ Binds K fd ["self", f] [] ∧ ExInit K mg x f C
/-- the def __init__ of the class at C -/
def DfI (K : PySem.W.Frag) (C : Addr) (q : Str) (st : Stmt) (f : Str) : Prop := ∃ (fI : Addr) (fd : FuncData), PySem.W.findIn K (.ref C) "__init__" = some (some (.ref fI)) ∧ PySem.W.typeIn K (.ref fI) = some (.type "function") ∧ Fun K "__init__" q st fI fd ∧ Binds K fd ["self", f] []
section
variable {X : Cx}
theorem pmk_i {k' : Nat} {x f : Str} {C : Addr} {e : Expr} {ta : TA} {p pos : Pos} (O : OkI X.prog X.w X.K X.mg X.base x f C) (hr : Room k' X.A) (ha : PA X [e] ta) (hk : 2 ≤ k' := by decide) (hg : Gl X x := by rfl) (hdb : (x == ("__debug__" : Str)) = false := by decide)
    (he : starEach [e] X.env = (false, eval e X.env) :: starEach [] X.env := by rfl) (hpl : (backTo pos (starEach [] X.env)).any (·.1) = false := by rfl) : PMk X (.Call (.Name x p) [e] [] pos) (tMkO C (spExI f X.K) [] ta) := by
  obtain ⟨fI, fd, h1, h2, F, b, T⟩ := O
  exact pmk_oex T.o h1 h2 F (hr.mono hk) b .nil pass0 hg T.g ha hdb he hpl
end
/-- making it, at its reading -/
theorem mkx {K : PySem.W.Frag} {mg : Str → Option Value} {x f : Str} {C : Addr} {H : Hp} {v : V} {Q : XK} (T : ExInit K mg x f C) (fv : FmtV v) (q : ∀ d, H d = none → Q (.ref C) (some d) (upd H d (.xd [(f, v)]))) :
    [v].length ≤ 1000 ∧ ∀ a, H a = none → spExI f K (.ref a :: ([v] ++ [])) (upd H a (exo a C none)) (fun u H2 => u = .non ∧ ∃ (d : Addr) (fs : List (Str × V)), H2 a = some (exo a C (some d)) ∧ H2 d = some (exd d fs) ∧ H d = none ∧ Q (.ref C) (some d) (upd (del H2 a) d (.xd fs))) (fun _ _ _ => False) := by
  refine ⟨(by decide : 1 ≤ 1000), fun a ha => ⟨a, C, v, rfl, T.o, T.n, upd_same, fv, fun dx hd ne => ⟨rfl, dx, [(f, v)], upd_same, ?_, ?_, ?_⟩⟩⟩
  · rw [upd_ne ne, upd_same]
  · rw [upd_ne ne] at hd
    exact hd
  · rw [upd_ne ne] at hd
    have e : upd (del (upd (upd (upd H a (exo a C none)) dx (exd dx [(f, v)])) a (exo a C (some dx))) a) dx (.xd [(f, v)]) = upd H dx (.xd [(f, v)]) := by
      funext b
      by_cases h1 : b = dx
      · subst h1
        rw [upd_same, upd_same]
      · rw [upd_ne h1, upd_ne h1]
        by_cases h2 : b = a
        · subst h2
          rw [del_same, ha]
        · rw [del_ne h2, upd_ne h2, upd_ne h1, upd_ne h2]
    rw [e]
    exact q dx hd
/-! ### a kept exception with a dict: isinstance, its field -/
/-- the exception of the class D at a, with its dict or without -/
def ExAt (H : Hp) (D a : Addr) : Prop := H a = some (ExK (.ref D) none a) ∨ ∃ (dd : Addr) (fs : List (Str × V)), H a = some (ExK (.ref D) (some dd) a) ∧ H dd = some (.xd fs)
section
variable {prog : Program} {w : World} {A : Around} {E : Value → Shared → Prop} {s : Shared} {K : PySem.W.Frag} {x D : Addr} {ox : Obj} {od : Option Obj}
open PySem.W in
theorem class_of_exc {Q : Option Value → Shared → Prop} (C : ExcC K D) (X : K.In s.heap) (I : InstAt s.heap x ox D od) (h : Q (some (.ref D)) { s with toks := s.toks + 1 }) : wpAny (model prog w) A (getAttr? (.ref x) "__class__") Q E s := by
  obtain ⟨cd, hc, _⟩ := any_some C.hd
  have found : findObj K D od "__class__" = some (.bind (.builtin "getset_descriptor.__get__") (.builtin "object.__class__")) := by
    unfold findObj
    rw [hc, Option.bind_some, C.ha, Option.bind_some]
    simp [C.hn, C.ht]
  obtain ⟨hp, g, d, t, os⟩ := s
  have M0 := I.type (M := model prog w)
  have no : (Value.builtin "BaseException.__getattribute__" == Value.builtin "object.__getattribute__") = false := by decide +kernel
  have isE : Looks (model prog w) hp (isInstance (.ref x) (.type "BaseException")) true := M0.andThen (looks_subIn X C.hs)
  unfold getAttr? getAttrBy? getAttrBy
  refine wpAny_bind (wpAny_mkText (wpAny_bind (wpAny_attempt (wpAny_holding (wpAny_bind (M0.at (wpAny_bind ((looks_findIn (M := model prog w) X C.hg).at ?_))))))))
  show wpAny (model prog w) _ (if (true && Value.builtin "BaseException.__getattribute__" == Value.builtin "object.__getattribute__") = true then _ else _) _ _ _
  rw [no, if_neg (by decide)]
  unfold getAttrByItsOwn hookBefore
  refine wpAny_bind ?_
  rw [if_pos (show onTheHeap (.ref D) = true from rfl)]
  refine (looks_findIn (M := model prog w) X C.hk).at (wpAny_bind (wpAny_attempt (wpAny_holding ?_)))
  unfold callGetattribute
  rw [if_neg (by decide)]
  unfold boundAndCalled
  rw [F.excAttr_ValueError.ga.bind (.ref x)]
  refine wpAny_bind (wpAny_pure ?_)
  show wpAny (model prog w) _ (call (.builtin "BaseException.__getattribute__") [.ref x, .str "__class__" t]) _ _ _
  refine wpAny_call (codeAny_call_builtin F.excAttr_ValueError.ga.plain F.entry_bexc_ga (@check_slot (model prog w) _ _ ⟨hp, g, d, t + 1, os⟩ "BaseException.__getattribute__" "BaseException" "__getattribute__" (.ref x) [.str "__class__" t] [] _ (by decide +kernel) (by decide +kernel) isE (F.args_bexc_ga (.ref x) (.str "__class__" t)) ?_))
  unfold Builtin.«object.__getattribute__»
  refine wpAny_bind (wpAny_of_eq (a := ((Value.ref x : Value), [Value.str "__class__" t])) (by first | (simp only [slotArgs]; rfl) | rfl) (wpAny_bind (wpAny_pure (wpAny_bind (M0.at (wpAny_bind ((looks_find (M := model prog w) X I found).at ?_)))))))
  show wpAny (model prog w) _ (holding [Value.builtin "object.__class__"] (call (.builtin "getset_descriptor.__get__") [.builtin "object.__class__", .ref x, .ref D]) >>= ret) _ _ _
  refine wpAny_bind (wpAny_holding (wpAny_call (class_get (s := ⟨hp, g, d, t + 1, os⟩) (ox := ox) (od := od) X I C.hm (wpAny_pure ?_))))
  show wpAny (model prog w) _ (handedOut (.ref D)) _ _ _
  rw [handedOut_of (v := .ref D) rfl]
  first
    | exact wpAny_pure (wpAny_pure h)
    | exact wpAny_pure h
    | exact wpAny_pure (wpAny_bind (wpAny_pure (wpAny_pure h)))
open PySem.W in
theorem kitx_own (C : ExcC K D) : KitX K (.ref x) (.ref D) (fun h => InstAt h x ox D od) := by
  have Z := handS_kitx_exc (x := x) (ox := ox) C.hg C.hk C.hs C.hd C.ha C.hn C.ht C.hm
  refine ⟨fun _ _ _ I => I.type, fun M h X _ => ?_, Z.ne, fun X I k => class_of_exc C X I k⟩
  obtain ⟨cd, hc, _⟩ := any_some C.hd
  unfold clsIn at hc
  split at hc
  · rename_i ho
    intro A' Q' E' s' k q
    unfold isType loadHead
    exact wpAny_bind (wpAny_loadPart (k _ _ (X _ _ ho)) (wpAny_pure q))
  · cases hc
end
def rIsY (K : PySem.W.Frag) : List V → Hp → VK → Prop := fun xs H Q => ∃ (a D : Addr) (c : V) (u : Value) (b : Bool), xs = [.ref a, c] ∧ ExAt H D a ∧ ExcC K D ∧ ClsV c u ∧ PySem.W.kitOne K (.ref D) u = some b ∧ Q (.bl b) H
def rIsYT (K : PySem.W.Frag) : List V → Hp → VK → Prop := fun xs H Q => ∃ (a D tp : Addr) (cs : List V) (us : List Value) (b : Bool), xs = [.ref a, .ref tp] ∧ ExAt H D a ∧ ExcC K D ∧ H tp = some (.tup cs) ∧ Paired ClsV cs us ∧ PySem.W.kitAny K (.ref D) us = some b ∧ Q (.bl b) H
section
variable {X : Cx} {pins : List (Addr × Obj)} {σ : L2.St} {H : Hp} {s : Shared}
theorem inst_of (I : Inv X pins σ H s) {D a : Addr} (h : ExAt H D a) : ∃ oe od, PySem.W.InstAt s.heap a oe D od := by
  rcases h with h | ⟨dd, fs, h, hd⟩
  · obtain ⟨⟨oe, vs, he, hz, hv⟩, _⟩ := I.hok a _ h
    exact ⟨oe, none, instAt_kept he hz hv⟩
  · obtain ⟨⟨oe, vs, he, hz, hv⟩, _⟩ := I.hok a _ h
    have hx : ObjOk X.prog X.w H s.heap dd (.xd fs) := I.hok dd _ hd
    obtain ⟨mA, hns, _⟩ := hx
    obtain ⟨od, ho, _⟩ := lookIn_ns hns
    exact ⟨oe, some od, he, hz.1, by unfold PySem.W.notCls; rw [hv] <;> rfl, by rw [hz.2]; exact ho⟩
end
section
variable {X : Cx} (K : PySem.W.Frag)
theorem call_isY_k (hk : X.K = K := by rfl) : CallR X (.builtin "isinstance") (rIsY K) := by
  subst hk
  intro pins s σ H xs us Q I r h
  obtain ⟨a, D, c, u, b, rfl, ha, C, k, e, q⟩ := h
  obtain ⟨u1, u2, rfl, r1, r2⟩ := vals2 r
  have e2 := k.eq r2
  subst e2
  cases r1
  obtain ⟨oe, od, J⟩ := inst_of I ha
  exact PySem.W.kia_one (kitx_own C) I.kIn J e (fun z => nomatch z) fun tk => ⟨.bl b, H, I.tok tk, rfl, q⟩
theorem call_isYT_k (hk : X.K = K := by rfl) : CallR X (.builtin "isinstance") (rIsYT K) := by
  subst hk
  intro pins s σ H xs us Q I r h
  obtain ⟨a, D, tp, cs, ws, b, rfl, ha, C, hT, k, e, q⟩ := h
  obtain ⟨u1, u2, rfl, r1, r2⟩ := vals2 r
  cases r1
  cases (show u2 = Value.ref tp from r2)
  obtain ⟨oe, od9, J⟩ := inst_of I ha
  obtain ⟨_, its, rv, o, h1, h2, n, h3⟩ := (show ObjOk X.prog X.w H s.heap tp (.tup cs) from I.hok tp _ hT)
  have e3 := ClsV.all k rv
  subst e3
  obtain ⟨oc, od, dt, sl⟩ := o
  simp only at h2 h3
  subst h2 h3
  exact PySem.W.kia_tup (kitx_own C) I.kIn J h1 e (fun z => nomatch z) fun tk => ⟨.bl b, H, I.tok tk, rfl, q⟩
/-- e.f, e a kept exception -/
def tXfK (K : PySem.W.Frag) (f : Str) (te : TE) : TE := fun σ H Q => te σ H fun x H1 => ∃ (a C dd : Addr) (fs : List (Str × V)) (v : V), x = .ref a ∧ H1 a = some (ExK (.ref C) (some dd) a) ∧ H1 dd = some (.xd fs) ∧ ExcC K C ∧ PySem.W.findIn K (.ref C) f = some none ∧ fs.lookup f = some v ∧ Q v H1
theorem pe_xfK {e : Expr} {te : TE} {pos : Pos} {f : Str} (he : PE X e te) (hk : X.K = K := by rfl) (hb : attributeBase e f X.env (eval e X.env) = eval e X.env := by rfl) : PE X (.Attribute e f pos) (tXfK K f te) := by
  subst hk
  refine ⟨fun pins s σ H Q I h => attr_of hb (thn (he.run pins s σ H _ I h) fun u s1 hh => ?_)⟩
  obtain ⟨x, H1, J, rx, a, C, dd, fs, v, ex, ea, ed, T, hno, l, q⟩ := hh
  subst ex
  cases (show u = Value.ref a from rx)
  obtain ⟨⟨oe, vs, hoe, hz, hv⟩, _⟩ := J.hok a _ ea
  have hx : ObjOk X.prog X.w H1 s1.heap dd (.xd fs) := J.hok dd _ ed
  obtain ⟨mA, hns, hr⟩ := hx
  obtain ⟨od, ho, hl⟩ := lookIn_ns hns
  obtain ⟨u, hu, ru⟩ := RelO.some_of (v := v) (o := mA f) (by rw [← l]; exact hr f)
  have Z : PySem.W.InstAt s1.heap a oe C (some od) := ⟨hoe, hz.1, by unfold PySem.W.notCls; rw [hv] <;> rfl, by rw [hz.2]; exact ho⟩
  exact HandSPX.exc_get J.kIn Z T.hg T.hk T.hs (PySem.W.findObj_own T.hd hno rfl (by rw [hl, hu])) (handed_of ru) ⟨v, H1, J.tok _, ru, q⟩
end
end Dear

namespace Dear
open PySem PySem.Spec PyProof.Rows L2
/-! ### own classes: making an object, its methods; both may raise -/
def DfM (K : PySem.W.Frag) (C : Addr) (m q : Str) (st : Stmt) (ps : List Str) : Prop := ∃ (f : Addr) (fd : FuncData), Meth K C m f ∧ Fun K m q st f fd ∧ Binds K fd ps []
def DfC (K : PySem.W.Frag) (mg : Str → Option Value) (x : Str) (C : Addr) (q : Str) (st : Stmt) (ps : List Str) : Prop := mg x = some (.ref C) ∧ ∃ (f : Addr) (fd : FuncData), L2.Mk K C f ∧ Fun K "__init__" q st f fd ∧ Binds K fd ps []
def OkM (P : Program) (w : World) (K : PySem.W.Frag) (mg : Str → Option Value) (base : Heap) (CX : CXT) (k : Nat) (C : Addr) (m : Str) (ps : List Str) (sp : Sp) : Prop :=
  ∃ (f : Addr) (fd : FuncData), Meth K C m f ∧ Binds K fd ps [] ∧ FnOk P w K mg base CX k f fd ps sp
def OkC (P : Program) (w : World) (K : PySem.W.Frag) (mg : Str → Option Value) (base : Heap) (CX : CXT) (k : Nat) (x : Str) (C : Addr) (ps : List Str) (sp : Sp) : Prop :=
  mg x = some (.ref C) ∧ ∃ (f : Addr) (fd : FuncData), L2.Mk K C f ∧ Binds K fd ps [] ∧ FnOk P w K mg base CX k f fd ps sp
section
variable {P : Program} {w : World} {K : PySem.W.Frag} {mg : Str → Option Value} {base : Heap} {C : Addr} {x m q : Str} {st : Stmt} {N ps : List Str} {k : Nat} {sp : Sp}
theorem DfM.ok (D : DfM K C m q st ps) (S : FnScope N ps (defScope st)) (len : ∀ vs H Q E, sp vs H Q E → vs.length = ps.length)
    (body : ∀ (f : Addr) (cdv : Value) (A : Around) (outer : List Env) (s : Shared) (H : Hp) (vs : List V) (Q : VK) (E : XK), Room k (A.deeper (envOfC q (defScope st) s.heap.objs.size f cdv)) → sp vs H Q E →
      ∃ t, PSs (cxOf CX0 P w K mg base N q (defScope st) f cdv A outer s H E).nox (defBody st) t ∧ t { nx := fun _ H' => Q .non H', rt := Q } (start N vs) H) : OkM P w K mg base CX0 (k + 1) C m ps sp := by
  obtain ⟨f, fd, hm, F, hb⟩ := D
  exact ⟨f, fd, hm, hb, F.ok S len (body f)⟩
theorem DfM.okX (D : DfM K C m q st ps) (S : FnScope N ps (defScope st)) (len : ∀ vs H Q E, sp vs H Q E → vs.length = ps.length)
    (body : ∀ (f : Addr) (cdv : Value) (A : Around) (outer : List Env) (s : Shared) (H : Hp) (vs : List V) (Q : VK) (E : XK), Room k (A.deeper (envOfC q (defScope st) s.heap.objs.size f cdv)) → sp vs H Q E →
      ∃ t, PSs (cxOf (L2.CX P w) P w K mg base N q (defScope st) f cdv A outer s H E) (defBody st) t ∧ t { nx := fun _ H' => Q .non H', rt := Q } (start N vs) H) : OkM P w K mg base (L2.CX P w) (k + 1) C m ps sp := by
  obtain ⟨f, fd, hm, F, hb⟩ := D
  exact ⟨f, fd, hm, hb, F.okX S len (body f)⟩
theorem DfC.okX (D : DfC K mg x C q st ps) (S : FnScope N ps (defScope st)) (len : ∀ vs H Q E, sp vs H Q E → vs.length = ps.length)
    (body : ∀ (f : Addr) (cdv : Value) (A : Around) (outer : List Env) (s : Shared) (H : Hp) (vs : List V) (Q : VK) (E : XK), Room k (A.deeper (envOfC q (defScope st) s.heap.objs.size f cdv)) → sp vs H Q E →
      ∃ t, PSs (cxOf (L2.CX P w) P w K mg base N q (defScope st) f cdv A outer s H E) (defBody st) t ∧ t { nx := fun _ H' => Q .non H', rt := Q } (start N vs) H) : OkC P w K mg base (L2.CX P w) (k + 1) x C ps sp := by
  obtain ⟨g, f, fd, hm, F, hb⟩ := D
  exact ⟨g, f, fd, hm, hb, F.okX S len (body f)⟩
theorem DfC.ok (D : DfC K mg x C q st ps) (S : FnScope N ps (defScope st)) (len : ∀ vs H Q E, sp vs H Q E → vs.length = ps.length)
    (body : ∀ (f : Addr) (cdv : Value) (A : Around) (outer : List Env) (s : Shared) (H : Hp) (vs : List V) (Q : VK) (E : XK), Room k (A.deeper (envOfC q (defScope st) s.heap.objs.size f cdv)) → sp vs H Q E →
      ∃ t, PSs (cxOf CX0 P w K mg base N q (defScope st) f cdv A outer s H E).nox (defBody st) t ∧ t { nx := fun _ H' => Q .non H', rt := Q } (start N vs) H) : OkC P w K mg base CX0 (k + 1) x C ps sp := by
  obtain ⟨g, f, fd, hm, F, hb⟩ := D
  exact ⟨g, f, fd, hm, hb, F.ok S len (body f)⟩
end
/-- o.m(..), the way out for a raise told at the names' values -/
def tMethX (C : Addr) (m : Str) (sp : Sp) (E : L2.St → XK) (ta : TE) (t : TA) : TE := fun σ H Q => ta σ H fun x H1 => ∃ a dx fs, x = .ref a ∧ H1 a = some (.ins C dx fs) ∧ fs.lookup m = none ∧ t σ H1 fun vs H2 => sp (x :: vs) H2 Q (E σ)
def tMakeX (C : Addr) (sp : Sp) (E : L2.St → XK) (t : TA) : TE := fun σ H Q => t σ H fun vs H1 => ∀ x dx, H1 x = none → H1 dx = none → dx ≠ x → sp (.ref x :: vs) (upd (upd H1 dx (.own x)) x (.ins C dx [])) (fun v H2 => v = .non ∧ Q (.ref x) H2) (E σ)
section
variable {X : Cx} {k k' : Nat} {C : Addr} {x m : Str} {ps : List Str} {sp : Sp} {o e : Expr} {es : List Expr} {ta : TE} {t : TA} {p pos apos : Pos} {W : WX}
/-- o.m(e, ..) -/
theorem pe_m {pl : Sem Bool} (O : OkM X.prog X.w X.K X.mg X.base CX0 k C m ps sp) (c : Cls X.K C) (hr : Room k' X.A) (he : PE X o ta) (ha : PA X (e :: es) t) (hk : k ≤ k' := by decide)
    (hst : starEach (e :: es) X.env = (false, eval e X.env) :: starEach es X.env := by rfl) (hpl : (backTo pos (starEach es X.env)).any (·.1) = false := by rfl)
    (ht : eval (.Call (.Attribute o m apos) (e :: es) [] pos) X.env = (do
      let u ← eval o X.env
      standAt apos.atName
      let (g, fst) ← holding [u] (getMethod u m pl)
      callWith pos g fst (backTo pos (starEach (e :: es) X.env)) (backToKw pos (keywordEach [] X.env))) := by rfl) : PE X (.Call (.Attribute o m apos) (e :: es) [] pos) (tMeth C m sp [] E0 ta t) := by
  obtain ⟨f, fd, hm, hb, F⟩ := O
  exact pe_meth he c hm F (hr.mono hk) hb .nil pass0 ha hst hpl ht
theorem pe_mz {pl : Sem Bool} (O : OkM X.prog X.w X.K X.mg X.base CX0 k C m ps sp) (c : Cls X.K C) (hr : Room k' X.A) (he : PE X o ta) (hk : k ≤ k' := by decide)
    (ht : eval (.Call (.Attribute o m apos) [] [] pos) X.env = (do
      let u ← eval o X.env
      standAt apos.atName
      let (g, fst) ← holding [u] (getMethod u m pl)
      callWith pos g fst (backTo pos (starEach [] X.env)) (backToKw pos (keywordEach [] X.env))) := by rfl) : PE X (.Call (.Attribute o m apos) [] [] pos) (tMeth C m sp [] E0 ta tNil) := by
  obtain ⟨f, fd, hm, hb, F⟩ := O
  exact pe_meth0 he c hm F (hr.mono hk) hb .nil pass0 ht
/-- o.m(e, ..) that may raise -/
theorem pe_mx {pl : Sem Bool} (O : OkM X.prog X.w X.K X.mg X.base (L2.CX X.prog X.w) k C m ps sp) (c : Cls X.K C) (hr : Room k' X.A) (tk : Takes X W) (he : PE X o ta) (ha : PA X (e :: es) t) (hk : k ≤ k' := by decide)
    (hst : starEach (e :: es) X.env = (false, eval e X.env) :: starEach es X.env := by rfl) (hpl : (backTo pos (starEach es X.env)).any (·.1) = false := by rfl)
    (ht : eval (.Call (.Attribute o m apos) (e :: es) [] pos) X.env = (do
      let u ← eval o X.env
      standAt apos.atName
      let (g, fst) ← holding [u] (getMethod u m pl)
      callWith pos g fst (backTo pos (starEach (e :: es) X.env)) (backToKw pos (keywordEach [] X.env))) := by rfl) : PE X (.Call (.Attribute o m apos) (e :: es) [] pos) (tMethX C m sp (WE W) ta t) := by
  obtain ⟨f, fd, hm, hb, F⟩ := O
  refine ⟨fun pins s σ H Q I h => ?_⟩
  refine PySem.W.methodCall_KW (pl := pl) (thn (he.run pins s σ H _ I h) fun u s1 ⟨y, H1, I1, ry, b, dx, fs, ey, eb, lk, q⟩ => ?_) ht
  subst ey
  obtain rfl : u = Value.ref b := ry
  refine getmeth_ok I1 eb c hm lk ?_
  refine PySem.W.callWith_K (first := [.ref b]) (h₀ := X.base) I.ok.mod.kin hm.kp (thn (ha.run pos pins s1 σ H1 _ I1 q) fun us s2 ⟨vs, H2, I2, r, q2⟩ => ⟨I2.kIn, ?_⟩) hst hpl
  exact run_fnS (us := .ref b :: us) (vs := .ref b :: vs) F (hr.mono hk) hb (E := WE W) (passAt tk σ) I2 (.cons rfl r) q2
/-- C(e, ..) whose __init__ may raise -/
theorem pe_mkx (O : OkC X.prog X.w X.K X.mg X.base (L2.CX X.prog X.w) k x C ps sp) (hr : Room k' X.A) (tk : Takes X W) (ha : PA X (e :: es) t) (hk : k + 1 ≤ k' := by decide) (hg : Gl X x := by rfl)
    (hdb : (x == ("__debug__" : Str)) = false := by decide) (he : starEach (e :: es) X.env = (false, eval e X.env) :: starEach es X.env := by rfl) (hpl : (backTo pos (starEach es X.env)).any (·.1) = false := by rfl) :
    PE X (.Call (.Name x p) (e :: es) [] pos) (tMakeX C sp (WE W) t) := by
  obtain ⟨hm, f, fd, M, hb, F⟩ := O
  refine ⟨fun pins s σ H Q I h => ?_⟩
  refine wpAny_Call_Name_kw (ld_glob I hg hm ?_ hdb)
  refine PySem.W.callWith_K (h₀ := X.base) I.ok.mod.kin M.kp (thn (ha.run pos pins s σ H _ I h) fun us s1 ⟨vs, H1, I1, r, q⟩ => ⟨I1.kIn, ?_⟩) he hpl
  have q1 := q (s1.heap.objs.size + 1) s1.heap.objs.size (I1.hok.fresh (Nat.le_succ _)) (I1.hok.fresh (Nat.le_refl _)) (Nat.ne_of_lt (Nat.lt_succ_self _))
  have J := Inv.made (C := C) I1
  have r1 : Vals (V.ref (s1.heap.objs.size + 1) :: vs) (Value.ref (s1.heap.objs.size + 1) :: us) := .cons rfl r
  have ln : (Value.ref (s1.heap.objs.size + 1) :: us ++ []).length = ps.length := by
    rw [List.append_nil, ← r1.length]
    exact F.len _ _ _ _ q1
  have b := hb _ (Value.ref (s1.heap.objs.size + 1) :: us) J.kIn ln
  rw [List.append_nil] at b
  refine wpAny_call (make_map (f := f) I1.kIn M.makes M.init (beq_iff_eq.mp M.fn) (codeAny_mono (F.run _ X.stack _ _ ⟨Value.ref (s1.heap.objs.size + 1) :: us, []⟩ _ _ _ (WE W σ) ((hr.mono hk).make C us [])
    (J.env0.make C us []) b r1 q1) fun rr s2 hq => ?_))
  cases rr with
  | error er => exact passAt tk σ pins _ _ er s2 J hq
  | ok fl =>
    cases fl with
    | ret u =>
      obtain ⟨v, H3, I3, rv, ev, q3⟩ := J.after hq
      subst ev
      exact ⟨rv, ⟨V.ref (s1.heap.objs.size + 1), H3, I3, rfl, q3⟩⟩
    | next => exact False.elim hq
    | brk => exact False.elim hq
    | cont => exact False.elim hq
end
/-- text += text, on an attribute -/
def rAddT : V → V → Hp → VK → Prop := fun x y H Q => ∃ i j, x = .str i ∧ y = .str j ∧ i.length + j.length ≤ sizeLine ∧ Q (.str (i ++ j)) H
theorem in_addT {X : Cx} : InOp X .Add rAddT := fun pins s σ H x y u v Q I rx ry h => iop_add_str pins s σ H x y u v Q I rx ry h
theorem pe_fld_k {X : Cx} (K : PySem.W.Frag) {e : Expr} {f : Str} {pos : Pos} {ta : TE} (he : PE X e ta) (hb : attributeBase e f X.env (eval e X.env) = eval e X.env) (hk : X.K = K := by rfl) : PE X (.Attribute e f pos) (tFld K ta f) := hk ▸ pe_fld he hb
end Dear

namespace Dear
open PySem PySem.Spec PyProof.Rows L2
/-! ### the set of a list of texts (any number), and how many it has -/
def dd1 (m : List Str) (v : Str) : List Str := if v ∈ m then m else m ++ [v]
def dd (xs : List Str) : List Str := xs.foldl dd1 []
theorem dd1_any (m : List Str) (v k : Str) : (m.any (· == k) || decide (k = v)) = (dd1 m v).any (· == k) := by
  unfold dd1
  by_cases h : v ∈ m
  · rw [if_pos h]
    by_cases e : k = v
    · subst e
      have : m.any (· == k) = true := List.any_eq_true.mpr ⟨k, h, by simp⟩
      rw [this]
      rfl
    · rw [decide_eq_false e, Bool.or_false]
  · rw [if_neg h, List.any_append]
    congr 1
    by_cases e : k = v
    · subst e; simp
    · have : ¬ v = k := fun z => e z.symm
      simp [e, this]
theorem dd1_len (m : List Str) (v : Str) : (if m.any (· == v) = true then m.length else m.length + 1) = (dd1 m v).length := by
  unfold dd1
  by_cases h : v ∈ m
  · have : m.any (· == v) = true := List.any_eq_true.mpr ⟨v, h, by simp⟩
    rw [if_pos h, if_pos this]
  · have : ¬ m.any (· == v) = true := fun z => by
      obtain ⟨x, hx, e⟩ := List.any_eq_true.mp z
      have e' : x = v := by simpa using e
      subst e'
      exact h hx
    rw [if_neg h, if_neg this, List.length_append]
    rfl
theorem dd_le : ∀ (xs m : List Str), (xs.foldl dd1 m).length ≤ m.length + xs.length
  | [], m => by simp
  | v :: r, m => by
    rw [List.foldl_cons]
    have h1 := dd_le r (dd1 m v)
    have h2 : (dd1 m v).length ≤ m.length + 1 := by
      unfold dd1
      split
      · omega
      · simp
    rw [List.length_cons]
    omega
theorem dd_more {xs : List Str} {i : Nat} {v : Str} (h : xs[i]? = some v) : dd (xs.take (i + 1)) = dd1 (dd (xs.take i)) v := by
  unfold dd
  rw [List.take_succ, h, List.foldl_append]
  rfl
/-- unlike ones: as many as there are -/
theorem dd_nodup : ∀ {xs : List Str} (m : List Str), (m ++ xs).Nodup → xs.foldl dd1 m = m ++ xs
  | [], m, _ => by simp
  | v :: r, m, h => by
    have hv : ¬ v ∈ m := fun z => by
      have := List.nodup_append.mp h
      exact this.2.2 v z v List.mem_cons_self rfl
    rw [List.foldl_cons]
    have e : dd1 m v = m ++ [v] := if_neg hv
    rw [e, dd_nodup (m ++ [v]) (by rw [List.append_assoc]; exact h), List.append_assoc]
    rfl
theorem dd_mem : ∀ (xs m : List Str) (k : Str), k ∈ xs.foldl dd1 m ↔ k ∈ m ∨ k ∈ xs
  | [], m, k => by simp
  | v :: r, m, k => by
    rw [List.foldl_cons, dd_mem r (dd1 m v) k]
    unfold dd1
    split
    · rename_i h
      constructor
      · rintro (h1 | h1)
        · exact .inl h1
        · exact .inr (List.mem_cons_of_mem _ h1)
      · rintro (h1 | h1)
        · exact .inl h1
        · rcases List.mem_cons.mp h1 with rfl | h1
          · exact .inl h
          · exact .inr h1
    · simp [or_assoc]
theorem dd_uniq : ∀ (xs m : List Str), m.Nodup → (xs.foldl dd1 m).Nodup
  | [], m, h => h
  | v :: r, m, h => by
    rw [List.foldl_cons]
    refine dd_uniq r _ ?_
    unfold dd1
    split
    · exact h
    · rename_i hv
      rw [List.nodup_append]
      exact ⟨h, by simp, fun a ha b hb e => by
        have : b = v := by simpa using hb
        subst this; subst e; exact hv ha⟩
/-- just unlike ones come to as many -/
theorem dd_full {xs : List Str} (h : (dd xs).length = xs.length) : xs.Nodup := by
  have key : ∀ (ys m : List Str), m.Nodup → (ys.foldl dd1 m).length = m.length + ys.length → (m ++ ys).Nodup := by
    intro ys
    induction ys with
    | nil => intro m hm _; simpa using hm
    | cons v r ih =>
      intro m hm e
      rw [List.foldl_cons] at e
      have hv : ¬ v ∈ m := fun z => by
        have e1 : dd1 m v = m := if_pos z
        rw [e1] at e
        have := dd_le r m
        rw [List.length_cons] at e
        omega
      have e1 : dd1 m v = m ++ [v] := if_neg hv
      rw [e1] at e
      have hm2 : (m ++ [v]).Nodup := by
        rw [List.nodup_append]
        exact ⟨hm, by simp, fun a ha b hb e2 => by
          have : b = v := by simpa using hb
          exact hv (this ▸ e2 ▸ ha)⟩
      have := ih (m ++ [v]) hm2 (by rw [e, List.length_append, List.length_cons]; simp; omega)
      rw [List.append_assoc] at this
      exact this
  have := key xs [] List.nodup_nil (by rw [List.length_nil, Nat.zero_add]; exact h)
  simpa using this
/-! ### a set of texts that can be walked -/
def signE (e : Int × Value) : Str := match e.2 with | .str z _ => z | _ => Str.empty
def TextE (P : Program) (w : World) (e : Int × Value) : Prop := ∃ z tk, e.2 = Value.str z tk ∧ e.1 = (PySem.strKind P w).hash z
/-- at a lies the set of the texts m -/
def SetW (P : Program) (w : World) (h : Heap) (a : Addr) (m : List Str) : Prop :=
  ∃ ob ms n tb, h.get? a = some ob ∧ ob.ExactSet ∧ ob.data = .set ms n tb ∧ (∀ e ∈ ms.toList, TextE P w e) ∧ (ms.toList.map signE).Perm m ∧
    ms.size < scanBound ∧ tb.fits ms.size = true ∧ Ris tb.place.toList ∧ (w.params.followText "set-order" = true ∨ tb.led = true)
section
variable {P : Program} {w : World} {A : Around} {E : Value → Shared → Prop} {s : Shared} {a : Addr} {m : List Str}
theorem text_elems {l : List (Int × Value)} (g : ∀ e ∈ l, TextE P w e) : ElemsOf (PySem.strKind P w) l := fun e he => by
  obtain ⟨z, tk, e1, e2⟩ := g e he
  exact ⟨⟨z, by rw [e1]; exact strKind_is P w z tk, e2⟩, by rw [e1]; rfl⟩
theorem text_is {e : Int × Value} (g : TextE P w e) (z : Str) : (PySem.strKind P w).is z e.2 = true ↔ signE e = z := by
  obtain ⟨y, tk, e1, _⟩ := g
  unfold signE
  rw [e1]
  show ((y == z) = true) ↔ y = z
  exact beq_iff_eq
/-- behind the laying: the table may be laid anew -/
theorem add_rest {gave : Bool → Sem Unit} (hg : ∀ (b : Bool) (s1 : Shared) (Q1 : Unit → Shared → Prop), Q1 () s1 → wpAny (model P w) A (gave b) Q1 E s1)
    {ob : Obj} {ms : Array (Int × Value)} {n : Nat} {tb : SetTable} (at0 : s.heap.get? a = some ob) (ex : ob.ExactSet) (da : ob.data = .set ms n tb)
    {ms1 : Array (Int × Value)} {tb1 : SetTable} (te : ∀ e ∈ ms1.toList, TextE P w e) (pm1 : (ms1.toList.map signE).Perm m)
    (few : ms1.size < scanBound) (fit : tb1.fits ms1.size = true) (ris : Ris tb1.place.toList) (led : w.params.followText "set-order" = true ∨ tb1.led = true) {dum : Bool} {R : Option Bool → Shared → Prop}
    (hR : ∀ h1, Heap.SameBut a s.heap h1 → SetW P w h1 a m → R (some true) { s with heap := h1 }) :
    wpAny (model P w) A (do
        storeSet a ms1 tb1
        if (!dum && tb1.tooFull) = true then do
            gave (relayAll tb1 ms1 (SetTable.grown ms1.size)).2.2
            storeSet a (relayAll tb1 ms1 (SetTable.grown ms1.size)).1 (relayAll tb1 ms1 (SetTable.grown ms1.size)).2.1
            pure (some true)
          else pure (some true)) R E s := by
  refine wpAny_bind (wpAny_storeSet_of at0 da ?_ (fits_of_scanBound few))
  have at1 := store_at (es' := ms1) (t' := tb1) at0 da
  have same1 := Heap.SameBut.update s.heap a (Obj.putSet ms1 tb1)
  split
  · have q1 := relayAll_perm tb1 ms1 (SetTable.grown ms1.size)
    have q2 := relayAll_fits tb1 ms1 (SetTable.grown ms1.size)
    have q3 := relayAll_ris tb1 ms1 (SetTable.grown ms1.size)
    have q4 := relayAll_led tb1 ms1 (SetTable.grown ms1.size)
    generalize relayAll tb1 ms1 (SetTable.grown ms1.size) = Z at q1 q2 q3 q4 ⊢
    obtain ⟨ms2, tb2, gv⟩ := Z
    dsimp only at q1 q2 q3 q4 ⊢
    have sz : ms2.size = ms1.size := by rw [← Array.length_toList, q1.length_eq, Array.length_toList]
    have few2 : ms2.size < scanBound := by rw [sz]; exact few
    refine wpAny_bind (hg _ _ _ ?_)
    refine wpAny_bind (wpAny_storeSet_of at1 rfl ?_ (fits_of_scanBound few2))
    have at2 := store_at (es' := ms2) (t' := tb2) at1 rfl
    refine wpAny_pure (hR _ (same1.trans (Heap.SameBut.update _ a _)) ?_)
    exact ⟨_, ms2, _, tb2, at2, ex, rfl, fun e he => te e (q1.mem_iff.mp he), (q1.map signE).trans pm1, few2, q2, q3, led.imp id fun z => by rw [q4]; exact z⟩
  · exact wpAny_pure (hR _ same1 ⟨_, ms1, _, tb1, at1, ex, rfl, te, pm1, few, fit, ris, led⟩)
theorem setW_add {k : Str} {tk : Tok} {Q : Bool → Shared → Prop} (W : SetW P w s.heap a m) (room : m.length + 1 < scanBound)
    (hQ : ∀ h1 b, Heap.SameBut a s.heap h1 → SetW P w h1 a (dd1 m k) → Q b { s with heap := h1 }) :
    wpAny (model P w) A (setAddHashed a (.str k tk) ((PySem.strKind P w).hash k)) Q E s := by
  obtain ⟨ob, ms, n, tb, at0, ex, da, te, pm, few, fit, ris, led⟩ := W
  have isk : (PySem.strKind P w).is k (.str k tk) = true := strKind_is P w k tk
  have sc : (Value.str k tk).scannable = true := rfl
  have el : ElemsOf (PySem.strKind P w) ms.toList := text_elems te
  unfold setAddHashed setAddHashedIn
  refine wpAny_holding (wpAny_bind (wpAny_setState_of at0 da fit ?_))
  dsimp only
  rw [byScan_of sc few el]
  simp only [↓reduceIte]
  unfold setAddByScan
  refine wpAny_bind (wpAny_bind (wpAny_rule (wpAny_bind (wpAny_setScan_of isk at0 da fit el ?_))))
  cases found : List.findIdx? (fun e => (PySem.strKind P w).is k e.2) ms.toList with
  | some j =>
    dsimp only
    obtain ⟨lt, ej, _⟩ := List.findIdx?_eq_some_iff_getElem.mp found
    have km : k ∈ m := pm.mem_iff.mp (List.mem_map.mpr ⟨_, List.getElem_mem lt, (text_is (te _ (List.getElem_mem lt)) k).mp ej⟩)
    refine wpAny_pure (wpAny_pure ?_)
    refine hQ s.heap _ (Heap.SameBut.refl a s.heap) ⟨ob, ms, n, tb, at0, ex, da, te, ?_, few, fit, ris, led⟩
    unfold dd1
    rw [if_pos km]
    exact pm
  | none =>
    dsimp only
    have km : k ∉ m := fun z => by
      obtain ⟨e, he, q⟩ := List.mem_map.mp (pm.mem_iff.mpr z)
      have c := List.findIdx?_eq_none_iff.mp found e he
      rw [(text_is (te e he) k).mpr q] at c
      cases c
    have q1 := layNew_perm tb ms ((PySem.strKind P w).hash k) (.str k tk)
    have q2 := layNew_fits tb ms ((PySem.strKind P w).hash k) (.str k tk)
    have q3 := layNew_ris tb ms ((PySem.strKind P w).hash k) (.str k tk) ris
    have q4 := layNew_led tb ms ((PySem.strKind P w).hash k) (.str k tk)
    generalize layNew tb ms ((PySem.strKind P w).hash k) (.str k tk) = Z at q1 q2 q3 q4 ⊢
    obtain ⟨ms1, tb1, dum, gv⟩ := Z
    dsimp only at q1 q2 q3 q4 ⊢
    rw [Array.toList_push] at q1
    have te1 : ∀ e ∈ ms1.toList, TextE P w e := fun e he => by
      rcases List.mem_append.mp (q1.mem_iff.mp he) with z | z
      · exact te e z
      · rw [List.mem_singleton.mp z]
        exact ⟨k, tk, rfl, rfl⟩
    have pm1 : (ms1.toList.map signE).Perm (dd1 m k) := by
      have q := q1.map signE
      rw [List.map_append] at q
      unfold dd1
      rw [if_neg km]
      exact q.trans (pm.append_right _)
    have sz : ms1.size = m.length + 1 := by
      rw [← Array.length_toList, q1.length_eq, List.length_append, ← pm.length_eq, List.length_map]
      rfl
    have few1 : ms1.size < scanBound := by rw [sz]; exact room
    have led1 : w.params.followText "set-order" = true ∨ tb1.led = true := led.imp id fun z => by rw [q4]; exact z
    refine wpAny_bind (?_ : wpAny _ _ (match gv with | true => rule "set.scan.the-table-gave-way" | false => pure ()) _ _ _)
    have hgv : ∀ (b : Bool) {s1 : Shared} {Q1 : Unit → Shared → Prop}, Q1 () s1 → wpAny (model P w) A (match b with | true => rule "set.scan.the-table-gave-way" | false => pure ()) Q1 E s1 := fun b s1 Q1 q => by
      cases b
      · exact wpAny_pure q
      · exact wpAny_rule q
    refine hgv _ ?_
    split
    · refine wpAny_bind ?_
      rw [hashByValue_scannable 8 sc]
      refine wpAny_pure ?_
      refine add_rest ?_ at0 ex da te1 pm1 few1 ?_ ?_ ?_ ?_
      · intro b s1 Q1 q; cases b <;> first | exact wpAny_pure q | exact wpAny_rule q
      · first | (split <;> first | exact q2 | exact SetTable.fits_plain_off q2) | exact q2
      · first | (split <;> exact q3) | exact q3
      · first | (split <;> exact led1) | exact led1
      · intro h1 sb r; dsimp only; exact wpAny_pure (hQ h1 _ sb r)
    · refine wpAny_bind (wpAny_pure ?_)
      simp only [↓reduceIte]
      refine add_rest ?_ at0 ex da te1 pm1 few1 q2 q3 led1 ?_
      · intro b s1 Q1 q; cases b <;> first | exact wpAny_pure q | exact wpAny_rule q
      · intro h1 sb r; dsimp only; exact wpAny_pure (hQ h1 _ sb r)
/-- a new set -/
theorem new_set (x : Value) {Q1 : Value → Shared → Prop}
    (q : ∀ tb : SetTable, tb = .fresh 0 0 (!w.params.followText "set-order") → Q1 (.ref s.heap.objs.size) { s with heap := s.heap.push { cls := .type "set", dict := none, data := .set #[] 0 tb } }) :
    codeAny (model P w) A (.call (.builtin "set.__new__") ⟨[.type "set", x], []⟩) (wants Q1 E) s := by
  refine codeAny_of_tree (?_ : wpAny _ A.in1 (do checkBuiltinCall "set.__new__" ⟨[.type "set", x], []⟩; again (.builtin "set.__new__" ⟨[.type "set", x], []⟩)) _ _ s)
  refine wpAny_bind (wpAny_of_eq (PySem.F.newCall_set_1 x) (wpAny_pure ⟨plainId_quiet PySem.F.plain_set_new _, codeAny_builtin PySem.F.entry_set_new (?_ : wpAny _ _ _ _ _ s)⟩))
  rw [Around.under_plainId PySem.F.plain_set_new _]
  have below := sub_set_self
  unfold Builtin.«set.__new__» Builtin.Frozenset.newClass
  obtain ⟨h0, g0, d0, t0, o0⟩ := s
  dsimp only
  wp_walk
  refine wpAny_askSetting (wpAny_pure ?_)
  dsimp only
  simp only [newObj]
  exact wpAny_bind (wpAny_alloc (wpAny_pure (wpAny_pure (q _ rfl))))
theorem setW_fresh {h : Heap} (g : h.get? a = some { cls := .type "set", dict := none, data := .set #[] 0 (.fresh 0 0 (!w.params.followText "set-order")) }) : SetW P w h a [] := by
  refine ⟨_, #[], 0, _, g, ⟨rfl, rfl, rfl⟩, rfl, (fun e he => by simp at he), (by simp), (by decide), (by rfl), List.Pairwise.nil, ?_⟩
  show _ ∨ (!w.params.followText "set-order") = true
  cases w.params.followText "set-order"
  · exact .inr rfl
  · exact .inl rfl
end
section
variable {prog : Program} {w : World} {A : Around} {R : Result → Shared → Prop} {I : Addr} {fp wr : List Addr} {G : Array GenState → Array GenState → Prop} {n : Nat} {Pn : Nat → Value → Prop} {St : Nat → Shared → Prop}
/-- S holds the unlike ones of the first i -/
def SetAtS (prog : Program) (w : World) (h : Heap) (S : Addr) (xs : List Str) : Prop := SetW prog w h S (dd xs)
theorem set_loop (W : WalksS prog w A.in1 I fp wr G n Pn St) (S : Addr) (out : S ∉ fp) (xs : List Str) (size : xs.length = n) (room : n + 1 < scanBound)
    (vals : ∀ i v, Pn i v → ∃ t, v = .str (xs.getD i Str.empty) t) :
    ∀ (m i : Nat) (s : Shared), i + m = n → St i s → SetAtS prog w s.heap S (xs.take i) →
      (∀ s', Moved (S :: wr) G s s' → SetAtS prog w s'.heap S xs → R (.ok (.ret .none)) s') →
      codeAny (model prog w) A (.builtin "set.update.loop" ⟨[.ref S, .ref I], []⟩) R s := by
  have outw : S ∉ wr := fun z => out (W.sub _ z)
  have more : ∀ b ∈ wr, b ∈ S :: wr := fun b z => List.mem_cons_of_mem _ z
  have stay : ∀ {s s' : Shared} {ys : List Str}, Moved wr G s s' → SetAtS prog w s.heap S ys → SetAtS prog w s'.heap S ys := fun mv hS => by
    obtain ⟨o, es, ep, tb, ho, rest⟩ := hS
    exact ⟨o, es, ep, tb, mv.heap S _ outw ho, rest⟩
  intro m
  induction m with
  | zero =>
    intro i s im hst hS hR
    have ei : i = n := by omega
    subst ei
    rw [← size, List.take_length] at hS
    refine codeAny_builtin PyProof.Rows.F.entry_set_update_loop (?_ : wpAny _ _ _ _ _ s)
    rw [Around.under_plainId PyProof.Rows.F.plain_set_update_loop _]
    show wpAny _ A.in1 (pyNext (.ref I) >>= _) _ _ s
    exact wpAny_bind (W.done s _ _ hst fun s' mv => wpAny_pure (hR s' (mv.mono more) (stay mv hS)))
  | succ m ih =>
    intro i s im hst hS hR
    have lt : i < n := by omega
    refine codeAny_builtin PyProof.Rows.F.entry_set_update_loop (?_ : wpAny _ _ _ _ _ s)
    rw [Around.under_plainId PyProof.Rows.F.plain_set_update_loop _]
    show wpAny _ A.in1 (pyNext (.ref I) >>= _) _ _ s
    refine wpAny_bind (W.item i s _ _ lt hst fun v s1 pv st1 mv => ?_)
    obtain ⟨t, rfl⟩ := vals i v pv
    have e : xs[i]? = some (xs.getD i Str.empty) := by
      rw [List.getD_eq_getElem?_getD, List.getElem?_eq_getElem (by omega)]
      rfl
    generalize xs.getD i Str.empty = x at e
    have hS1 := stay mv hS
    show wpAny _ A.in1 (holding [Value.str x t] (setAdd S (.str x t)) >>= _) _ _ s1
    refine wpAny_bind (wpAny_holding ?_)
    unfold setAdd
    refine wpAny_holding (wpAny_bind ((PySem.strKind prog w).pyHash (k := x) (strKind_is _ _ _ _) ?_))
    have few : (dd (xs.take i)).length + 1 < scanBound := by
      have := dd_le (xs.take i) []
      have h2 : (xs.take i).length ≤ n := by rw [List.length_take]; omega
      have h3 : (dd (xs.take i)).length ≤ (xs.take i).length := by simpa [dd] using this
      omega
    refine setW_add (s := { s1 with toks := s1.toks + 1 }) hS1 few fun h2 _ same hS2 => ?_
    have next : SetAtS prog w h2 S (xs.take (i + 1)) := by
      unfold SetAtS
      rw [dd_more e]
      exact hS2
    refine wpAny_pure ⟨plainId_quiet PyProof.Rows.F.plain_set_update_loop _, ih (i + 1) _ (by omega) (W.frame _ s1 _ _ st1 (Nat.le_succ _) fun b hb o z => ?_) next fun s3 mv3 hS3 => hR s3 (Moved.trans W.gtrans ((mv.mono more).then_heap (Nat.le_succ _) fun b o hb z => ?_) mv3) hS3⟩
    · rw [same.2 b fun q => out (q ▸ hb)]
      exact z
    · rw [same.2 b fun q => hb (q ▸ List.mem_cons_self)]
      exact z
end
section
variable {prog : Program} {w : World} {A : Around} {E : Value → Shared → Prop} {s : Shared}
/-- an empty set, new -/
abbrev set0 (led : Bool) : Obj := { cls := .type "set", dict := none, data := .set #[] 0 (.fresh 0 0 led) }
set_option maxHeartbeats 3200000 in
/-- set(xs), xs a list of texts -/
theorem set_of_list {l : Addr} {its : Array Value} {xs : List Str} {Q : Value → Shared → Prop} (calm : A.handled = none) (hl : s.heap.IsList l its) (hi : StrsAre its.toList xs) (room : xs.length + 1 < scanBound)
    (q : ∀ (h2 : Heap) (tk : Nat), SetAtS prog w h2 s.heap.objs.size xs → (∀ b o, b < s.heap.objs.size → s.heap.get? b = some o → h2.get? b = some o) → Q (.ref s.heap.objs.size) { s with heap := h2, toks := tk }) :
    wpAny (model prog w) A (call (.type "set") [.ref l]) Q E s := by
  obtain ⟨_, _, way⟩ := PySem.F.called_set.mro
  have f1 := PySem.F.called_set.made
  have f2 := PySem.F.called_set.sub
  have f3 := PySem.F.called_set.notType
  have f4 := PySem.F.called_set.canCreate
  have f5 := PySem.F.typeCall_set_1 (.ref l)
  refine wpAny_call (codeAny_of_tree (?_ : wpAny _ _ (callAny (.type "set") _) _ _ _))
  refine wpAny_pure ⟨Code.quiet_builtin _ (by decide +kernel), codeAny_builtin PySem.F.entry_type_call (?_ : wpAny _ _ _ _ _ _)⟩
  rw [Around.under_plain (weight_type_call_type "set" [.ref l] []) rfl]
  repeat (any_goals (first | assumption | wp_step))
  refine codeAny_mono (new_set (.ref l) (E := E) (Q1 := fun u s1 => ∃ led : Bool, u = .ref s.heap.objs.size ∧ s1 = { s with heap := s.heap.push (set0 led) } ∧ led = !w.params.followText "set-order") fun tb e => ⟨_, rfl, by rw [e], rfl⟩) fun r s1 hr => ?_
  cases r with
  | error e => exact hr
  | ok fl =>
    cases fl with
    | next => exact hr.elim
    | brk => exact hr.elim
    | cont => exact hr.elim
    | ret u =>
      obtain ⟨led, rfl, rfl, eled⟩ := hr
      have g0 : (s.heap.push (set0 led)).get? s.heap.objs.size = some (set0 led) := Heap.get?_push_size _ rfl
      have ty : Shared.TypeIs { s with heap := s.heap.push (set0 led) } (.ref s.heap.objs.size) "set" := ⟨_, g0, rfl⟩
      have f6 := PySem.F.called_set.init.lookup
      have f7 := PySem.F.called_set.init.bind (.ref s.heap.objs.size)
      repeat (any_goals (first | assumption | wp_step))
      refine codeAny_mono (codeAny_call_builtin (R := wants (fun r s2 => r = .none ∧ ∃ h2 tk, s2 = { s with heap := h2, toks := tk } ∧ SetAtS prog w h2 s.heap.objs.size xs ∧ (∀ b o, b < s.heap.objs.size → s.heap.get? b = some o → h2.get? b = some o)) E)
        PySem.F.called_set.init.plain PySem.F.entry_set_init (check_set_init_1 ty ?_)) fun r2 s2 hr2 => ?_
      · obtain ⟨⟨c, d, da, sl⟩, ol, cl, nl, dl⟩ := hl
        simp only at cl dl
        subst cl dl
        have ol1 : (s.heap.push (set0 led)).get? l = some { cls := .type "list", dict := d, data := .seq its nl, slots := sl } := Heap.get?_push_of_some _ ol
        have f8 := PySem.F.sub_list_set
        have f9 := PySem.F.sub_list_frozenset
        have f10 : (Value.type "list" == Value.type "dict") = false := by decide
        have hl1 : (s.heap.push (set0 led)).IsList l its := ⟨_, ol1, rfl, nl, rfl⟩
        unfold Builtin.«set.__init__» noKeywords Builtin.Frozenset.updateFrom
        generalize hPI : pyIter = PI
        wp_walk
        subst hPI
        refine wpAny_pyIter_list hl1 (wpAny_bind (wpAny_runValue ?_))
        have below : l < s.heap.objs.size := Heap.lt_size ol
        have sz1 : (s.heap.push (set0 led)).objs.size = s.heap.objs.size + 1 := Heap.size_push _ _
        have n1 : l ≠ (s.heap.push (set0 led)).objs.size := by
          rw [sz1]
          exact Nat.ne_of_lt (Nat.lt_succ_of_lt below)
        have out : s.heap.objs.size ∉ [(s.heap.push (set0 led)).objs.size, l] := by
          rw [sz1]
          simp only [List.mem_cons, List.not_mem_nil, or_false, not_or]
          exact ⟨Nat.ne_of_lt (Nat.lt_succ_self _), Nat.ne_of_gt below⟩
        have size : xs.length = its.size := by rw [← StrsAre.len_eq hi, Array.length_toList]
        have vals : ∀ (i : Nat) (v : Value), its[i]? = some v → ∃ t, v = .str (xs.getD i Str.empty) t := fun i v z => SS.strs_at hi i v (by rw [Array.getElem?_toList]; exact z)
        refine set_loop ((Walks.list (show A.in1.in1.in1.handled = none by simp [calm]) _ l n1 its).toS) s.heap.objs.size out xs size (by rw [← size]; exact room) vals its.size 0 _ (by omega) ⟨⟨_, Heap.get?_push_size _ rfl, rfl, rfl⟩, (hl1.push _)⟩ ?start ?stop
        case start =>
          have g1 : ((s.heap.push (set0 led)).push { cls := .type "list_iterator", data := .fields #[.ref l, .int 0 0] }).get? s.heap.objs.size = some (set0 led) := Heap.get?_push_of_some _ g0
          exact setW_fresh (g1.trans (by rw [eled]))
        case stop =>
          rintro ⟨h2, g2, d2, tk2, os2⟩ mv hS
          obtain rfl : g2 = s.gens := mv.gens
          obtain rfl : d2 = s.drawn := mv.drawn
          obtain rfl : os2 = s.os := mv.os
          refine wpAny_pure (?_ : wpAny _ _ (ret Value.none) _ _ _)
          refine wpAny_pure ⟨rfl, h2, tk2, rfl, hS, fun b o hb z => mv.heap b o ?_ (Heap.get?_push_of_some _ (Heap.get?_push_of_some _ z))⟩
          simp only [List.mem_cons, List.not_mem_nil, or_false, not_or]
          exact ⟨Nat.ne_of_lt hb, by rw [sz1]; exact Nat.ne_of_lt (Nat.lt_succ_of_lt hb)⟩
      · cases r2 with
        | error e => exact hr2
        | ok fl2 =>
          cases fl2 with
          | next => exact hr2.elim
          | brk => exact hr2.elim
          | cont => exact hr2.elim
          | ret r =>
            obtain ⟨rfl, h2, tk, rfl, hS, keep⟩ := hr2
            repeat (any_goals (first | assumption | wp_step))
            exact q _ _ hS keep
end
/-- len(set(xs)) -/
def tLenSetS (K : PySem.W.Frag) (ta : TE) : TE := fun σ H Q => ta σ H fun x H1 => ∃ (l : Addr) (xs : List Str), x = .ref l ∧ SqL K H1 l (xs.map V.str) ∧ xs.length ≤ 1000 ∧ Q (.int ((dd xs).length : Nat)) H1
theorem pe_lenSetS {X : Cx} (K : PySem.W.Frag) {a : Expr} {ta : TE} {p p2 q pos : Pos} (hc : X.calm = true) (hm : X.mg "len" = none) (hm2 : X.mg "set" = none) (ha : PE X a ta) (hk : X.K = K := by rfl) (hg : Gl X "len" := by rfl) (hg2 : Gl X "set" := by rfl)
    (na : starEach [a] X.env = (false, eval a X.env) :: starEach [] X.env := by rfl) : PE X (.Call (.Name "len" p) [.Call (.Name "set" p2) [a] [] q] [] pos) (tLenSetS K ta) := by
  subst hk
  refine ⟨fun pins s σ H Q I h => ?_⟩
  refine Call_ (ld_blt I hg hm boot_len (PyProof.Rows.callWith_builtin1 (PyProof.Rows.args_cons ?_ rfl) rfl rfl))
  refine Call_ (ld_blt I hg2 hm2 boot_set ?_)
  refine PyProof.Rows.callWith_type1 (PyProof.Rows.args_cons (thn (ha.run pins s σ H _ I h) fun v s1 ⟨x, H1, I1, r1, q1⟩ => PyProof.Rows.args_nil ?_) na) na rfl
  obtain ⟨l, xs, rfl, hq, small, q1⟩ := q1
  cases r1
  obtain ⟨its, r, pl, hz⟩ := I1.list hq
  refine set_of_list (I1.ok.hd hc) pl.isList (by simpa using strsAre_of r) (by unfold scanBound; omega) fun h2 tk hS keep => PyProof.Rows.args_nil ?_
  obtain ⟨o, es, ep, t, ho, hex, hd, _, pm, _, hf, _⟩ := hS
  have hn : es.size = (dd xs).length := by rw [← pm.length_eq, List.length_map, Array.length_toList]
  have I2 : Inv X pins σ H1 { s1 with heap := h2, toks := tk } := I1.kept fun b o e => keep b o (Heap.lt_size e) e
  have few := dd_le xs []
  have few2 : (dd xs).length ≤ xs.length := by simpa [dd] using few
  exact call_len_set ho hex hd hf (by rw [hn]; omega) ⟨.int ((dd xs).length : Nat), H1, I2.tok _, ⟨_, by rw [hn]⟩, q1⟩
/-- sorted(set(xs)) -/
def tSortSetS (K : PySem.W.Frag) (ta : TE) : TE := fun σ H Q => ta σ H fun x H1 => ∃ (l : Addr) (xs : List Str), x = .ref l ∧ SqL K H1 l (xs.map V.str) ∧ xs.length < 64 ∧
  ∀ (ys : List Str) (p : Addr), ys.Perm (dd xs) → sortedS ys = true → H1 p = none → Q (.ref p) (upd H1 p (.lst (ys.map V.str)))
theorem texts_are {P : Program} {w : World} : ∀ {es : List (Int × Value)}, (∀ e ∈ es, TextE P w e) → StrsAre (es.map (·.2)) (es.map signE)
  | [], _ => .nil
  | e :: es, h => by
    obtain ⟨z, tk, e1, _⟩ := h e List.mem_cons_self
    have e2 : signE e = z := by
      unfold signE
      rw [e1]
    rw [List.map_cons, List.map_cons, e1, e2]
    exact .cons _ _ (texts_are fun x hx => h x (List.mem_cons_of_mem _ hx))
theorem strs_perm {us vs : List Value} (p : us.Perm vs) : ∀ {xs : List Str}, StrsAre vs xs → ∃ ys, StrsAre us ys ∧ ys.Perm xs := by
  induction p with
  | nil => exact fun h => ⟨_, h, .refl _⟩
  | cons x _ ih =>
    intro xs h
    cases h with
    | cons z tk h =>
      obtain ⟨ys, h1, h2⟩ := ih h
      exact ⟨_, .cons z tk h1, h2.cons z⟩
  | swap x y l =>
    intro xs h
    cases h with
    | cons z tk h =>
      cases h with
      | cons z2 tk2 h => exact ⟨_, .cons z2 tk2 (.cons z tk h), .swap z z2 _⟩
  | trans _ _ ih1 ih2 =>
    intro xs h
    obtain ⟨ys, h1, h2⟩ := ih2 h
    obtain ⟨zs, h3, h4⟩ := ih1 h1
    exact ⟨zs, h3, h4.trans h2⟩
theorem pe_sortSetS {X : Cx} (K : PySem.W.Frag) {a : Expr} {ta : TE} {p p2 q pos : Pos} (hc : X.calm = true) (hm : X.mg "sorted" = none) (hm2 : X.mg "set" = none) (ha : PE X a ta) (hk : X.K = K := by rfl) (hg : Gl X "sorted" := by rfl) (hg2 : Gl X "set" := by rfl)
    (na : starEach [a] X.env = (false, eval a X.env) :: starEach [] X.env := by rfl) : PE X (.Call (.Name "sorted" p) [.Call (.Name "set" p2) [a] [] q] [] pos) (tSortSetS K ta) := by
  subst hk
  refine ⟨fun pins s σ H Q I h => ?_⟩
  refine Call_ (ld_blt I hg hm boot_sorted (PyProof.Rows.callWith_builtin1 (PyProof.Rows.args_cons ?_ rfl) rfl rfl))
  refine Call_ (ld_blt I hg2 hm2 boot_set ?_)
  refine PyProof.Rows.callWith_type1 (PyProof.Rows.args_cons (thn (ha.run pins s σ H _ I h) fun v s1 ⟨x, H1, I1, r1, q1⟩ => PyProof.Rows.args_nil ?_) na) na rfl
  obtain ⟨l, xs, rfl, hq, small, q1⟩ := q1
  cases r1
  obtain ⟨its, r, pl, hz⟩ := I1.list hq
  refine set_of_list (I1.ok.hd hc) pl.isList (by simpa using strsAre_of r) (by unfold scanBound; omega) fun h2 tk hS keep => PyProof.Rows.args_nil ?_
  obtain ⟨o, ms, n, tb, ho, hex, hd, te, pm, few, fit, ris, led⟩ := hS
  have I2 : Inv X pins σ H1 { s1 with heap := h2, toks := tk } := I1.kept fun b o e => keep b o (Heap.lt_size e) e
  have few2 : (dd xs).length ≤ xs.length := by
    have := dd_le xs []
    simpa [dd] using this
  refine Calls.call_function_entry PyProof.Rows.kind_sorted PyProof.Rows.plain_sorted PyProof.Rows.entry_sorted (PyProof.Rows.args_sorted1 _) ?_
  unfold Builtin.«sorted»
  refine wpAny_bind (m := checkCount "sorted" 1 1 _) (wpAny_pure ?_)
  refine wpAny_bind (collect_set (A := X.A.in1) (I1.ok.hd hc) ⟨o, ho, hex.1, hd⟩ fit few ris led fun s3 vs k3 z3 g3 o3 p3 => ?_)
  obtain ⟨zs, sA, pz⟩ := strs_perm p3 (texts_are te)
  have vl : vs.length < 64 := by
    have e1 := StrsAre.len_eq sA
    have e2 := pz.length_eq
    have e3 := pm.length_eq
    omega
  refine wpAny_bind (wpAny_newList ?_ (small64 vl))
  have at4 : (s3.heap.push (seqObj "list" vs.toArray 0)).get? s3.heap.objs.size = some (seqObj "list" vs.toArray 0) := Heap.get?_push_size _ rfl
  refine wpAny_bind (wpAny_holding (wpAny_call_entry PyProof.Rows.slot_list_sort ⟨_, at4, rfl⟩ PyProof.Rows.entry_list_sort
    (list_sort_treeK strKind_oneLt (s := { s3 with heap := s3.heap.push (seqObj "list" vs.toArray 0) }) at4 sA.keysOf (fun v1 v2 rest e => keyKind_strs (by rw [← e]; exact sA)) vl fun st2 hp hs => ⟨_, rfl, ?_⟩)
    (PyProof.Rows.args_list_sort _)))
  obtain ⟨ys, y1, y2, y3⟩ := sorted_out_str sA hp hs
  obtain ⟨n5, at5⟩ := PyProof.Rows.sortedHeap_at (vs := vs) (out := (arrOf st2).map (·.2)) at4
  have yl : (ys.map V.str).length ≤ sizeLine := by
    rw [List.length_map, y2.length_eq, ← StrsAre.len_eq sA]
    exact small64 vl
  have k4 : ∀ b u, s1.heap.get? b = some u → (PyProof.Rows.sortedHeap (s3.heap.push (seqObj "list" vs.toArray 0)) s3.heap.objs.size vs ((arrOf st2).map (·.2))).get? b = some u := fun b u e => by
    have e3 := k3 b u (keep b u (Heap.lt_size e) e)
    have lt3 : b < s3.heap.objs.size := Heap.lt_size e3
    rw [PyProof.Rows.sortedHeap_old (Nat.ne_of_lt lt3) (by rw [size_push']; exact Nat.lt_succ_of_lt lt3)]
    exact Heap.get?_push_of_some _ e3
  have up : s1.heap.objs.size ≤ s3.heap.objs.size := Nat.le_trans (Nat.le_of_lt (Heap.lt_size ho)) z3
  have fr : H1 s3.heap.objs.size = none := I1.hok.fresh up
  have J : Inv X pins σ (upd H1 s3.heap.objs.size (.lst (ys.map V.str))) { s1 with heap := PyProof.Rows.sortedHeap (s3.heap.push (seqObj "list" vs.toArray 0)) s3.heap.objs.size vs ((arrOf st2).map (·.2)), gens := s3.gens, drawn := s3.drawn, toks := s3.toks } :=
    I1.call (ch := []) (Un.laid k4 up fr) (I1.hok.laid k4 up ⟨yl, ((arrOf st2).map (·.2)).toList, n5, vals_of_strs y1, by rw [Array.toArray_toList]; exact at5⟩) (by rw [g3]; exact I1.bare) (fun _ z => nomatch z)
  have es : ({ s3 with heap := PyProof.Rows.sortedHeap (s3.heap.push (seqObj "list" vs.toArray 0)) s3.heap.objs.size vs ((arrOf st2).map (·.2)) } : Shared) = { s1 with heap := PyProof.Rows.sortedHeap (s3.heap.push (seqObj "list" vs.toArray 0)) s3.heap.objs.size vs ((arrOf st2).map (·.2)), gens := s3.gens, drawn := s3.drawn, toks := s3.toks } := by
    cases s3
    cases s1
    cases o3
    rfl
  refine wpAny_pure ⟨_, rfl, ?_⟩
  show EP X pins σ Q (.ref s3.heap.objs.size) { s3 with heap := PyProof.Rows.sortedHeap (s3.heap.push (seqObj "list" vs.toArray 0)) s3.heap.objs.size vs ((arrOf st2).map (·.2)) }
  rw [es]
  exact ⟨.ref _, _, J, rfl, q1 ys _ (y2.trans (pz.trans pm)) y3 fr⟩
end Dear

namespace Dear
open PySem PySem.Spec PyProof.Rows L2
/-! ### data, and how the heap bears them -/
inductive D where
  | non | bl (b : Bool) | int (i : Int) | str (z : Str) | lst (ds : List D) | tup (ds : List D) | dct
def kind : D → String
  | .non => "NoneType" | .bl _ => "bool" | .int _ => "int" | .str _ => "str" | .lst _ => "list" | .tup _ => "tuple" | .dct => "dict"
mutual
inductive Dt (H : Hp) : V → D → Prop
  | non : Dt H .non .non
  | bl (b : Bool) : Dt H (.bl b) (.bl b)
  | int (i : Int) : Dt H (.int i) (.int i)
  | str (z : Str) : Dt H (.str z) (.str z)
  | lst {a : Addr} {xs : List V} {ds : List D} : H a = some (.lst xs) → DtAll H xs ds → Dt H (.ref a) (.lst ds)
  | tup {a : Addr} {xs : List V} {ds : List D} : H a = some (.tup xs) → DtAll H xs ds → Dt H (.ref a) (.tup ds)
  | dct {a : Addr} {kvs : List (Key × V)} : H a = some (.dK kvs) → Dt H (.ref a) .dct
inductive DtAll (H : Hp) : List V → List D → Prop
  | nil : DtAll H [] []
  | cons {v : V} {vs : List V} {d : D} {ds : List D} : Dt H v d → DtAll H vs ds → DtAll H (v :: vs) (d :: ds)
end
mutual
theorem Dt.same {H H' : Hp} (s : Same H H') : ∀ {v : V} {d : D}, Dt H v d → Dt H' v d
  | _, _, .non => .non
  | _, _, .bl b => .bl b
  | _, _, .int i => .int i
  | _, _, .str z => .str z
  | _, _, .lst h a => .lst (s _ _ h) (DtAll.same s a)
  | _, _, .tup h a => .tup (s _ _ h) (DtAll.same s a)
  | _, _, .dct h => .dct (s _ _ h)
theorem DtAll.same {H H' : Hp} (s : Same H H') : ∀ {vs : List V} {ds : List D}, DtAll H vs ds → DtAll H' vs ds
  | _, _, .nil => .nil
  | _, _, .cons a b => .cons (Dt.same s a) (DtAll.same s b)
end
theorem DtAll.length {H : Hp} : ∀ {vs : List V} {ds : List D}, DtAll H vs ds → vs.length = ds.length
  | _, _, .nil => rfl
  | _, _, .cons _ b => by rw [List.length_cons, List.length_cons, DtAll.length b]
theorem DtAll.get {H : Hp} : ∀ {vs : List V} {ds : List D} {i : Nat} {v : V}, DtAll H vs ds → vs[i]? = some v → ∃ d, ds[i]? = some d ∧ Dt H v d
  | _, _, _, _, .nil, e => by simp at e
  | _, _, 0, _, .cons a _, e => by
    simp at e
    subst e
    exact ⟨_, rfl, a⟩
  | _, _, i + 1, v, .cons _ b, e => by
    obtain ⟨d, h1, h2⟩ := DtAll.get (i := i) (v := v) b (by simpa using e)
    exact ⟨d, by simpa using h1, h2⟩
theorem DtAll.app {H : Hp} : ∀ {vs us : List V} {ds es : List D}, DtAll H vs ds → DtAll H us es → DtAll H (vs ++ us) (ds ++ es)
  | _, _, _, _, .nil, s => s
  | _, _, _, _, .cons a b, s => .cons a (DtAll.app b s)
theorem DtAll.map {α : Type} {H : Hp} {f : α → V} {g : α → D} (h : ∀ a, Dt H (f a) (g a)) : ∀ l : List α, DtAll H (l.map f) (l.map g)
  | [] => .nil
  | a :: l => .cons (h a) (DtAll.map h l)
theorem Dt.ty {K : PySem.W.Frag} {H : Hp} {v : V} {d : D} (h : Dt H v d) : TyX K H v (.type (kind d)) := by
  cases h with
  | non => exact .base .non
  | bl b => exact .base (.bl b)
  | int i => exact .base (.int i)
  | str z => exact .base (.str z)
  | lst h _ => exact .base (.lst h)
  | tup h _ => exact .base (.tup h)
  | dct h => exact .base (.dK h)
/-! ### a heap without one object -/
def Off (l : Addr) (H : Hp) : Hp := fun b => if b = l then none else H b
theorem Off.sub (l : Addr) (H : Hp) : Same (Off l H) H := fun b o e => by
  unfold Off at e
  by_cases h : b = l
  · rw [if_pos h] at e
    cases e
  · rw [if_neg h] at e
    exact e
theorem off_ne {l b : Addr} {H : Hp} (h : b ≠ l) : Off l H b = H b := if_neg h
theorem But.off {l : Addr} {H H' : Hp} (a : But l H H') : Same (Off l H) (Off l H') := fun b o e => by
  by_cases h : b = l
  · have z := (if_pos h).symm.trans e
    cases z
  · rw [off_ne h] at e ⊢
    exact a b o e h
theorem sOff {l : Addr} {H H' : Hp} (a : Same H H') : Same (Off l H) (Off l H') := (But.of a).off
theorem Dt.on {l : Addr} {H : Hp} {v : V} {d : D} (h : Dt (Off l H) v d) : Dt H v d := h.same (Off.sub l H)
/-! ### what a display makes -/
def Mk (l : Addr) (σ : L2.St) (t : TE) (H : Hp) (d : D) : Prop := ∀ H1, Same H H1 → ∀ Q : VK, (∀ v H2, Same H1 H2 → Dt (Off l H2) v d → Q v H2) → t σ H1 Q
def MkA (l : Addr) (σ : L2.St) (t : TA) (H : Hp) (ds : List D) : Prop := ∀ H1, Same H H1 → ∀ Q : List V → Hp → Prop, (∀ vs H2, Same H1 H2 → DtAll (Off l H2) vs ds → Q vs H2) → t σ H1 Q
section
variable {l : Addr} {σ : L2.St} {H : Hp}
theorem mk_c {v : V} {d : D} (h : Dt (Off l H) v d) : Mk l σ (tC v) H d := fun H1 s _ q => q v H1 (Same.refl _) (h.same (sOff s))
theorem mk_var {i : Nat} {v : V} {d : D} (e : σ[i]? = some (some v)) (h : Dt (Off l H) v d) : Mk l σ (tVar i) H d := fun H1 s _ q => ⟨v, e, q v H1 (Same.refl _) (h.same (sOff s))⟩
theorem mka_nil : MkA l σ tNil H [] := fun H1 _ _ q => q [] H1 (Same.refl _) .nil
theorem mka_cons {t : TE} {u : TA} {d : D} {ds : List D} (h1 : Mk l σ t H d) (h2 : MkA l σ u H ds) : MkA l σ (tCons t u) H (d :: ds) := fun H1 s Q q => by
  refine h1 H1 s _ fun v H2 s2 d2 => ?_
  refine h2 H2 (s.trans s2) _ fun vs H3 s3 d3 => ?_
  exact q (v :: vs) H3 (s2.trans s3) (.cons (d2.same (sOff s3)) d3)
theorem sz_lit {n : Nat} (h : n ≤ 1000) : n ≤ sizeLine := Nat.le_of_lt (small1000 h)
theorem mk_tup {u : TA} {ds : List D} (h : MkA l σ u H ds) {o : HO} (hl : H l = some o) (hz : Nat.ble ds.length 1000 = true := by rfl) : Mk l σ (tTup u) H (.tup ds) := fun H1 s Q q => by
  refine h H1 s _ fun vs H2 s2 d2 => ?_
  refine ⟨sz_lit (by rw [d2.length]; exact Nat.le_of_ble_eq_true hz), fun p hp => ?_⟩
  have ne : p ≠ l := fun e => by
    subst e
    rw [s2 _ _ (s _ _ hl)] at hp
    cases hp
  exact q (.ref p) _ (s2.trans (Same.upd hp)) (.tup (by rw [off_ne ne]; exact upd_same) (d2.same (sOff (Same.upd hp))))
theorem mk_lst {u : TA} {ds : List D} (h : MkA l σ u H ds) {o : HO} (hl : H l = some o) (hz : Nat.ble ds.length 1000 = true := by rfl) : Mk l σ (tLst u) H (.lst ds) := fun H1 s Q q => by
  refine h H1 s _ fun vs H2 s2 d2 => ?_
  refine ⟨sz_lit (by rw [d2.length]; exact Nat.le_of_ble_eq_true hz), fun p hp => ?_⟩
  have ne : p ≠ l := fun e => by
    subst e
    rw [s2 _ _ (s _ _ hl)] at hp
    cases hp
  exact q (.ref p) _ (s2.trans (Same.upd hp)) (.lst (by rw [off_ne ne]; exact upd_same) (d2.same (sOff (Same.upd hp))))
theorem mk_dnew {o : HO} (hl : H l = some o) : Mk l σ tDNewK H .dct := fun H1 s Q q p hp => by
  have ne : p ≠ l := fun e => by
    subst e
    rw [s _ _ hl] at hp
    cases hp
  exact q (.ref p) _ (Same.upd hp) (.dct (by rw [off_ne ne]; exact upd_same))
theorem mk_neg {i : Int} : Mk l σ (tUn (rU fun i => .int (-i)) (tC (.int i))) H (.int (-i)) := fun H1 _ _ q => ⟨i, rfl, q _ H1 (Same.refl _) (.int _)⟩
/-- {k: v} -/
theorem mk_disp1 {o : HO} {k : Int} {v : V} (hl : H l = some o) : Mk l σ (tDisp [(tC (.int k), tC v)]) H .dct := fun H1 s Q q p hp => by
  have ne : p ≠ l := fun e => by
    subst e
    rw [s _ _ hl] at hp
    cases hp
  refine ⟨upd_same, [(.inl k, v)], rfl, (by show 1 ≤ 15; decide), ?_⟩
  rw [upd_upd]
  exact q (.ref p) _ (Same.upd hp) (.dct (by rw [off_ne ne]; exact upd_same))
theorem Mk.go {t : TE} {d : D} (h : Mk l σ t H d) {Q : VK} (q : ∀ v H2, Same H H2 → Dt (Off l H2) v d → Q v H2) : t σ H Q := h H (Same.refl H) Q q
/-- xs + [..] -/
theorem mk_cat {t u : TE} {ds es : List D} (h1 : Mk l σ t H (.lst ds)) (h2 : Mk l σ u H (.lst es)) {o : HO} (hl : H l = some o) (hz : Nat.ble (ds.length + es.length) 1000 = true := by rfl) : Mk l σ (tOp rCat t u) H (.lst (ds ++ es)) := fun H1 s Q q => by
  refine h1 H1 s _ fun v H2 s2 d2 => ?_
  refine h2 H2 (s.trans s2) _ fun v3 H3 s3 d3 => ?_
  cases d2 with
  | lst ha2 hall2 =>
    cases d3 with
    | lst ha3 hall3 =>
      have ha2' := s3 _ _ (Off.sub _ _ _ _ ha2)
      have ha3' := Off.sub _ _ _ _ ha3
      refine ⟨_, _, _, _, rfl, rfl, ha2', ha3', sz_lit (by rw [hall2.length, hall3.length]; exact Nat.le_of_ble_eq_true hz), fun p hp => ?_⟩
      have ne : p ≠ l := fun e => by
        subst e
        rw [s3 _ _ (s2 _ _ (s _ _ hl))] at hp
        cases hp
      exact q (.ref p) _ ((s2.trans s3).trans (Same.upd hp)) (.lst (by rw [off_ne ne]; exact upd_same) (((hall2.same (sOff s3)).app hall3).same (sOff (Same.upd hp))))
end
/-! ### sizes of data -/
abbrev Asc (z : Str) : Prop := ∀ c ∈ z.cps.toList, c < 128
mutual
def Ok : D → Prop
  | .int i => i.natAbs < 2 ^ 300
  | .str z => z.length ≤ 3000 ∧ Asc z
  | .lst ds => OkAll ds
  | .tup ds => OkAll ds
  | _ => True
def OkAll : List D → Prop
  | [] => True
  | d :: ds => Ok d ∧ OkAll ds
end
theorem OkAll.mem : ∀ {ds : List D} {d : D}, OkAll ds → d ∈ ds → Ok d
  | [], _, _, m => by simp at m
  | e :: r, d, h, m => by
    rcases List.mem_cons.mp m with rfl | m
    · exact h.1
    · exact OkAll.mem h.2 m
/-- places of a list -/
theorem at_lt {α : Type} {xs : List α} {r : Int} (h0 : 0 ≤ r) (h1 : r < xs.length) : ∃ v, atI xs r = some v ∧ v ∈ xs ∧ xs[r.toNat]? = some v := by
  obtain ⟨n, rfl⟩ := Int.eq_ofNat_of_zero_le h0
  have hn : n < xs.length := by omega
  exact ⟨xs[n], atI_nat (by simp [hn]), List.getElem_mem hn, by simp [hn]⟩
/-! ### the law's draws -/
def Src (H : Hp) (l : Addr) : Prop := ∃ n s : Int, H l = some (.lst [.int n, .int s]) ∧ 0 ≤ n ∧ 0 ≤ s ∧ s < 2147483647
theorem Src.same {H H' : Hp} {l : Addr} (h : Src H l) (s : Same H H') : Src H' l := by
  obtain ⟨n, z, e, r⟩ := h
  exact ⟨n, z, s _ _ e, r⟩
theorem Src.some {H : Hp} {l : Addr} (h : Src H l) : ∃ o, H l = Option.some o := by
  obtain ⟨n, z, e, r⟩ := h
  exact ⟨_, e⟩
theorem Src.ne {H : Hp} {l p : Addr} (h : Src H l) (hp : H p = none) : p ≠ l := fun e => by
  obtain ⟨o, ho⟩ := h.some
  rw [e, ho] at hp
  cases hp
theorem bit_lt (k : Bool) : -(2 ^ 64) < (if k = true then 1 else 0 : Int) ∧ (if k = true then 1 else 0 : Int) < 2 ^ 64 := by
  cases k <;> decide
theorem bit_ge (k : Bool) : 0 ≤ (if k = true then 1 else 0 : Int) := by
  cases k <;> decide
def spSource : Sp := fun vs H Q _ => ∃ (c k : Int), vs = [.int c, .int k] ∧ ∀ (l : Addr) (H' : Hp), H l = none → Same H H' → Src H' l → Q (.ref l) H'
def spDraw : Sp := fun vs H Q _ => ∃ (l : Addr) (m : Int), vs = [.ref l, .int m] ∧ Src H l ∧ 0 < m ∧ m.natAbs.log2 < 9000 ∧ ∀ (r : Int) (H' : Hp), 0 ≤ r → r < m → But l H H' → Src H' l → Q (.int r) H'
theorem log_small {m : Int} {n : Nat} (h0 : 0 < n) (h : m.natAbs < 2 ^ n) (hn : n ≤ 9000) : m.natAbs.log2 < 9000 := Nat.lt_of_lt_of_le (PySem.Flt.log2_lt_of h0 h) hn
end Dear

namespace Dear
open PySem PySem.Spec PyProof.Rows L2
/-! ### kinds of things -/
def isInt : D → Bool
  | .int _ => true
  | _ => false
def isBl : D → Bool
  | .bl _ => true
  | _ => false
def isStr : D → Bool
  | .str _ => true
  | _ => false
def isLst : D → Bool
  | .lst _ => true
  | _ => false
def isTup : D → Bool
  | .tup _ => true
  | _ => false
def isDct : D → Bool
  | .dct => true
  | _ => false
theorem kd_int : ∀ d : D, kitB (kind d) "int" = some (isInt d || isBl d)
  | .non => (by decide +kernel : kitB "NoneType" "int" = some false)
  | .bl _ => (by decide +kernel : kitB "bool" "int" = some true)
  | .int _ => (by decide +kernel : kitB "int" "int" = some true)
  | .str _ => (by decide +kernel : kitB "str" "int" = some false)
  | .lst _ => (by decide +kernel : kitB "list" "int" = some false)
  | .tup _ => (by decide +kernel : kitB "tuple" "int" = some false)
  | .dct => (by decide +kernel : kitB "dict" "int" = some false)
theorem kd_bool : ∀ d : D, kitB (kind d) "bool" = some (isBl d)
  | .non => (by decide +kernel : kitB "NoneType" "bool" = some false)
  | .bl _ => (by decide +kernel : kitB "bool" "bool" = some true)
  | .int _ => (by decide +kernel : kitB "int" "bool" = some false)
  | .str _ => (by decide +kernel : kitB "str" "bool" = some false)
  | .lst _ => (by decide +kernel : kitB "list" "bool" = some false)
  | .tup _ => (by decide +kernel : kitB "tuple" "bool" = some false)
  | .dct => (by decide +kernel : kitB "dict" "bool" = some false)
theorem kd_str : ∀ d : D, kitB (kind d) "str" = some (isStr d)
  | .non => (by decide +kernel : kitB "NoneType" "str" = some false)
  | .bl _ => (by decide +kernel : kitB "bool" "str" = some false)
  | .int _ => (by decide +kernel : kitB "int" "str" = some false)
  | .str _ => (by decide +kernel : kitB "str" "str" = some true)
  | .lst _ => (by decide +kernel : kitB "list" "str" = some false)
  | .tup _ => (by decide +kernel : kitB "tuple" "str" = some false)
  | .dct => (by decide +kernel : kitB "dict" "str" = some false)
theorem kd_list : ∀ d : D, kitB (kind d) "list" = some (isLst d)
  | .non => (by decide +kernel : kitB "NoneType" "list" = some false)
  | .bl _ => (by decide +kernel : kitB "bool" "list" = some false)
  | .int _ => (by decide +kernel : kitB "int" "list" = some false)
  | .str _ => (by decide +kernel : kitB "str" "list" = some false)
  | .lst _ => (by decide +kernel : kitB "list" "list" = some true)
  | .tup _ => (by decide +kernel : kitB "tuple" "list" = some false)
  | .dct => (by decide +kernel : kitB "dict" "list" = some false)
theorem kd_tuple : ∀ d : D, kitB (kind d) "tuple" = some (isTup d)
  | .non => (by decide +kernel : kitB "NoneType" "tuple" = some false)
  | .bl _ => (by decide +kernel : kitB "bool" "tuple" = some false)
  | .int _ => (by decide +kernel : kitB "int" "tuple" = some false)
  | .str _ => (by decide +kernel : kitB "str" "tuple" = some false)
  | .lst _ => (by decide +kernel : kitB "list" "tuple" = some false)
  | .tup _ => (by decide +kernel : kitB "tuple" "tuple" = some true)
  | .dct => (by decide +kernel : kitB "dict" "tuple" = some false)
theorem kd_dict : ∀ d : D, kitB (kind d) "dict" = some (isDct d)
  | .non => (by decide +kernel : kitB "NoneType" "dict" = some false)
  | .bl _ => (by decide +kernel : kitB "bool" "dict" = some false)
  | .int _ => (by decide +kernel : kitB "int" "dict" = some false)
  | .str _ => (by decide +kernel : kitB "str" "dict" = some false)
  | .lst _ => (by decide +kernel : kitB "list" "dict" = some false)
  | .tup _ => (by decide +kernel : kitB "tuple" "dict" = some false)
  | .dct => (by decide +kernel : kitB "dict" "dict" = some true)
/-! ### is_whole, divisor, lowest, is_fraction, is_name -/
def spWhole : Sp := fun vs H Q _ => ∃ (v : V) (d : D), vs = [v] ∧ Dt H v d ∧ Q (.bl (isInt d)) H
def spDivisor : Sp := fun vs H Q _ => ∃ (a b : Int), vs = [.int a, .int b] ∧ 0 ≤ a ∧ 0 ≤ b ∧ Q (.int (Int.gcd a b)) H
/-- in lowest terms -/
def lowT (t b : Int) : Int := t / (Int.gcd b t : Int)
def lowB (t b : Int) : Int := b / (Int.gcd b t : Int)
def spLowest : Sp := fun vs H Q _ => ∃ (t b : Int), vs = [.int t, .int b] ∧ 0 < b ∧ b.natAbs.log2 < 9000 ∧ ∀ (p : Addr) (H' : Hp), H p = none → Same H H' → H' p = some (.tup [.int (lowT t b), .int (lowB t b)]) → Q (.ref p) H'
def isFr : D → Bool
  | .tup [.int t, .int b] => decide (0 < b) && (Int.gcd b t == 1)
  | _ => false
theorem isFr_len : ∀ {ds : List D}, ds.length ≠ 2 → isFr (.tup ds) = false
  | [], _ => rfl
  | [d], _ => by cases d <;> rfl
  | [_, _], h => absurd rfl h
  | d :: e :: _ :: _, _ => by cases d <;> cases e <;> rfl
def spFr : Sp := fun vs H Q _ => ∃ (v : V) (d : D), vs = [v] ∧ Dt H v d ∧ Ok d ∧ ∀ H', Same H H' → Q (.bl (isFr d)) H'
def letters : Str := "abcdefghijklmnopqrstuvwxyz"
def isNm : D → Bool
  | .str z => decide (1 ≤ z.length ∧ z.length ≤ 8) && z.cps.toList.all fun c => decide (c ∈ letters.cps.toList)
  | _ => false
def spNm : Sp := fun vs H Q _ => ∃ (v : V) (d : D), vs = [v] ∧ Dt H v d ∧ Ok d ∧ ∀ H', Same H H' → Q (.bl (isNm d)) H'
theorem gcd_step {a b : Int} (h0 : 0 ≤ a) (h : 0 < b) : Int.gcd b (a % b) = Int.gcd a b := by
  obtain ⟨m, rfl⟩ := Int.eq_ofNat_of_zero_le h0
  obtain ⟨n, rfl⟩ := Int.eq_ofNat_of_zero_le (Int.le_of_lt h)
  show Nat.gcd n (((m : Int) % (n : Int)).natAbs) = Nat.gcd m n
  rw [← Int.natCast_emod, Int.natAbs_natCast, Nat.gcd_comm n, ← Nat.gcd_rec, Nat.gcd_comm]
theorem abs_if (t : Int) : (if t < 0 then -t else t) = (t.natAbs : Int) := by
  split <;> omega
theorem gcd_abs (b t : Int) : Int.gcd b (t.natAbs : Int) = Int.gcd b t := by
  show Nat.gcd b.natAbs ((t.natAbs : Int).natAbs) = Nat.gcd b.natAbs t.natAbs
  rw [Int.natAbs_natCast]
theorem gcd_pos {b : Int} (t : Int) (h : 0 < b) : 0 < (Int.gcd b t : Int) := by
  have h1 : 0 < Int.gcd b t := Nat.gcd_pos_of_pos_left _ (by omega)
  omega
theorem gcd_le {b : Int} (t : Int) (h : 0 < b) : (Int.gcd b t : Int) ≤ b := by
  have h1 : Int.gcd b t ≤ b.natAbs := Nat.le_of_dvd (by omega) (Nat.gcd_dvd_left _ _)
  omega
theorem gcd_log {b : Int} (t : Int) (h : 0 < b) (hl : b.natAbs.log2 < 9000) : ((Int.gcd b t : Nat) : Int).natAbs.log2 < 9000 := by
  have h1 := gcd_le t h
  have h2 : b.natAbs < 2 ^ 9000 := Nat.lt_of_lt_of_le Nat.lt_log2_self (Nat.pow_le_pow_right (by decide) hl)
  have h3 : ((Int.gcd b t : Nat) : Int).natAbs < 2 ^ 9000 := Nat.lt_of_le_of_lt (by omega) h2
  exact PySem.Flt.log2_lt_of (by decide) h3
/-- a fraction is in lowest terms just where it is what lowest makes of it -/
theorem low_eq {t b : Int} (h : 0 < b) : ((lowT t b == t) && (lowB t b == b)) = (Int.gcd b t == 1) := by
  have g0 := gcd_pos t h
  by_cases e : Int.gcd b t = 1
  · have e1 : lowT t b = t := by unfold lowT; rw [e]; exact Int.ediv_one t
    have e2 : lowB t b = b := by unfold lowB; rw [e]; exact Int.ediv_one b
    rw [e1, e2, e]
    simp
  · have e3 : lowB t b ≠ b := by
      unfold lowB
      have g2 : (Int.gcd b t : Int) ≠ 1 := by omega
      have := Int.ediv_lt_self_of_pos_of_ne_one h g2
      omega
    have e4 : (lowB t b == b) = false := by simpa using e3
    have e5 : (Int.gcd b t == 1) = false := by simpa using e
    rw [e4, e5, Bool.and_false]
/-! ### texts -/
theorem in_letters_asc {c : Nat} (h : c ∈ letters.cps.toList) : c < 128 := by
  have : ∀ c ∈ letters.cps.toList, c < 128 := by decide +kernel
  exact this c h
end Dear

namespace Dear
open PySem PySem.Spec PyProof.Rows L2
/-! ### texts and lists of texts -/
theorem join_tl (ys : List Str) : (Txt.join "" ys).cps.toList = (ys.map fun y => y.cps.toList).flatten := by
  rw [TL.join_eq]
  have e := TL.tl_join ("" : Str) ys
  have e0 : TL.tl ("" : Str) = [] := by decide +kernel
  rw [e0] at e
  have g : ∀ l : List (List Nat), TL.joinL [] l = l.flatten := by
    intro l
    induction l with
    | nil => rfl
    | cons a r ih =>
      cases r with
      | nil => simp [TL.joinL]
      | cons b r =>
        rw [List.flatten_cons, ← ih]
        simp [TL.joinL]
  rw [g] at e
  exact e
/-- texts of one sign each -/
def Ones (ys : List Str) : Prop := ∀ y ∈ ys, y.length = 1 ∧ Asc y
theorem ones_join {ys : List Str} (h : Ones ys) : (Txt.join "" ys).length = ys.length ∧ Asc (Txt.join "" ys) := by
  constructor
  · rw [TL.len_tl, TL.tl, join_tl]
    induction ys with
    | nil => rfl
    | cons a r ih =>
      rw [List.map_cons, List.flatten_cons, List.length_append, ih fun y hy => h y (List.mem_cons_of_mem _ hy), List.length_cons]
      have h1 := (h a List.mem_cons_self).1
      rw [TL.len_tl] at h1
      have h2 : a.cps.toList.length = 1 := h1
      show a.cps.toList.length + r.length = r.length + 1
      omega
  · intro c hc
    rw [join_tl] at hc
    obtain ⟨l, hl, hc⟩ := List.mem_flatten.mp hc
    obtain ⟨y, hy, rfl⟩ := List.mem_map.mp hl
    exact (h y hy).2 c hc
theorem ones_size {ys : List Str} (h : Ones ys) (hl : ys.length ≤ 1000) : (ys.map (·.length)).sum + ys.length * ("" : Str).length ≤ 16777216 := by
  have e : (ys.map (·.length)).sum = ys.length := by
    clear hl
    induction ys with
    | nil => rfl
    | cons a r ih =>
      rw [List.map_cons, List.sum_cons, ih fun y hy => h y (List.mem_cons_of_mem _ hy), (h a List.mem_cons_self).1, List.length_cons]
      omega
  have e0 : ("" : Str).length = 0 := by decide +kernel
  rw [e, e0]
  omega
theorem dp_strs {K : PySem.W.Frag} {H : Hp} : ∀ ys : List Str, DpAll K H (ys.map V.str) (ys.map PyData.str)
  | [] => .nil
  | y :: ys => .cons (.str y) (dp_strs ys)
theorem strOk_asc {z : Str} (h : Asc z) : PyData.strOk z = true := by
  unfold PyData.strOk
  rw [Array.all_eq_true']
  intro c hc
  have := h c (by simpa using hc)
  simp
  omega
theorem depth_strs : ∀ ys : List Str, PyData.depthAll (ys.map PyData.str) = 0
  | [] => rfl
  | y :: ys => by
    rw [List.map_cons]
    show max (PyData.depth (.str y)) (PyData.depthAll (ys.map PyData.str)) = 0
    rw [depth_strs ys]
    rfl
theorem lay_strs : ∀ {ys : List Str}, (∀ y ∈ ys, Asc y) → PyData.canLayAll0 (ys.map PyData.str) = true
  | [], _ => rfl
  | y :: ys, h => by
    rw [List.map_cons]
    show (PyData.canLay0 (.str y) && PyData.canLayAll0 (ys.map PyData.str)) = true
    rw [lay_strs fun z hz => h z (List.mem_cons_of_mem _ hz), Bool.and_true]
    exact strOk_asc (h y List.mem_cons_self)
theorem shaped_strs {ys : List Str} (h : ∀ y ∈ ys, Asc y) : SeqAt.shaped (.list (ys.map PyData.str)) = true := by
  show (PyData.canLayAll0 (ys.map PyData.str) && decide (PyData.depthAll (ys.map PyData.str) + 1 ≤ 64)) = true
  rw [lay_strs h, depth_strs]
  rfl
theorem shaped_nil : SeqAt.shaped (.list []) = true := by decide +kernel
theorem eqv_nil : ∀ ds : List PyData, PyData.eqv (.list ds) (.list []) = ds.isEmpty
  | [] => by simp [PyData.eqv, PyData.eqvAll]
  | _ :: _ => by simp [PyData.eqv, PyData.eqvAll]
theorem all_empty {α β : Type} (l : List α) (p : α → Bool) (f : α → β) : l.all p = ((l.filter fun c => !p c).map f).isEmpty := by
  induction l with
  | nil => rfl
  | cons a r ih =>
    rw [List.all_cons, ih, List.filter_cons]
    cases p a <;> simp
theorem asc_one {c : Nat} (h : c < 128) : Asc ⟨#[c]⟩ := fun x hx => by
  have : x = c := by simpa using hx
  omega
theorem ixN_lt {n : Nat} {r : Int} (h0 : 0 ≤ r) (h1 : r < n) : ixN n r = some r.toNat := by
  unfold ixN
  rw [if_pos h0, if_pos h1]
theorem off_some {l p : Addr} {H : Hp} {o : HO} (h : Off l H p = some o) : p ≠ l ∧ H p = some o := by
  have ne : p ≠ l := fun e => by
    have z := (if_pos e).symm.trans h
    cases z
  rw [off_ne ne] at h
  exact ⟨ne, h⟩
theorem mem_cut {xs : List V} {lo hi : Option Int} {v : V} (h : v ∈ cutV xs lo hi) : v ∈ xs := List.mem_of_mem_drop (List.mem_of_mem_take h)
theorem get_ints {ns : List Int} {xs : List V} (h : ∀ v ∈ xs, v ∈ ns.map V.int) {i : Nat} {v : V} (e : xs[i]? = some v) : ∃ z, v = .int z ∧ z ∈ ns := by
  have := h v (List.mem_of_getElem? e)
  obtain ⟨z, hz, rfl⟩ := List.mem_map.mp this
  exact ⟨z, rfl, hz⟩
/-- one of a list that was made -/
theorem pick {l : Addr} {H H1 : Hp} {p : Addr} {ds : List D} (h : Dt (Off l H) (.ref p) (.lst ds)) (ok : OkAll ds) (B : But l H H1) {r : Int} (r0 : 0 ≤ r) (r1 : r < ds.length) :
    ∃ (xs : List V) (v : V) (d : D), H1 p = some (.lst xs) ∧ atI xs r = some v ∧ Dt (Off l H1) v d ∧ Ok d ∧ d ∈ ds := by
  cases h with
  | lst ha hall =>
    rename_i xs
    obtain ⟨ne, hp⟩ := off_some ha
    obtain ⟨v, hv, _, hr⟩ := at_lt (xs := xs) r0 (by rw [hall.length]; exact r1)
    obtain ⟨d, hd, h⟩ := hall.get hr
    have hm := List.mem_of_getElem? hd
    exact ⟨xs, v, d, B _ _ hp ne, hv, h.same B.off, ok.mem hm, hm⟩
theorem But.same0 {l : Addr} {H H1 H2 : Hp} (s : Same H H1) (h : H l = none) (B : But l H1 H2) : Same H H2 := fun c o e => B c o (s c o e) (ne_of_none e h)
theorem log_le {m : Int} (n : Nat) (h : m.natAbs ≤ n) (hn : n < 2 ^ 40 := by decide) : m.natAbs.log2 < 9000 := log_small (n := 40) (by decide) (Nat.lt_of_le_of_lt h hn) (by decide)
end Dear

namespace Dear
open PySem PySem.Spec PyProof.Rows L2
/-! ### list(text), tuple(text) -/
def sgnsV (z : Str) : List V := z.cps.toList.map fun c => V.str ⟨#[c]⟩
theorem valsAt : ∀ {xs : List V} {us : List Value}, xs.length = us.length → (∀ (j : Nat) (x : V) (u : Value), xs[j]? = some x → us[j]? = some u → RelV x u) → Vals xs us
  | [], [], _, _ => .nil
  | [], _ :: _, h, _ => by simp at h
  | _ :: _, [], h, _ => by simp at h
  | x :: xs, u :: us, h, f => .cons (f 0 x u rfl rfl) (valsAt (by simpa using h) fun j y w h1 h2 => f (j + 1) y w (by simpa using h1) (by simpa using h2))
theorem vals_signs {z : Str} {acc : Array Value} (h : ItemsOf (SignAt z) acc z.cps.size) : Vals (sgnsV z) acc.toList := by
  have el : acc.toList.length = z.cps.size := by rw [Array.length_toList]; exact h.1
  refine valsAt (by unfold sgnsV; rw [List.length_map, el, Array.length_toList]) fun j x u h1 h2 => ?_
  obtain ⟨c, t, e1, e2⟩ := h.2 j u (by rw [← h2, Array.getElem?_toList])
  unfold sgnsV at h1
  rw [List.getElem?_map, Array.getElem?_toList, e1] at h1
  cases h1
  exact ⟨t, e2⟩
section
variable {X : Cx}
def rListTx : List V → Hp → VK → Prop := fun xs H Q => ∃ z, xs = [.str z] ∧ z.length ≤ 1000 ∧ ∀ l, H l = none → Q (.ref l) (upd H l (.lst (sgnsV z)))
def rTupTx : List V → Hp → VK → Prop := fun xs H Q => ∃ z, xs = [.str z] ∧ z.length ≤ 1000 ∧ ∀ l, H l = none → Q (.ref l) (upd H l (.tup (sgnsV z)))
theorem call_list_tx (hc : X.calm = true) : CallR X (.type "list") rListTx := by
  intro pins s σ H xs us Q I r h
  obtain ⟨z, e, hz, q⟩ := h
  subst e
  obtain ⟨u, eu, t, rfl⟩ := vals1 r
  subst eu
  have hz' : z.cps.size ≤ sizeLine := sz_lit hz
  refine call_list_str (hn := hz') (I.ok.hd hc) z t fun h' tk acc c' hk e' hi => ?_
  refine ⟨.ref s.heap.objs.size, upd H s.heap.objs.size (.lst (sgnsV z)), I.laid hk (Nat.le_refl _) (show ObjOk X.prog X.w _ _ _ (.lst (sgnsV z)) from ⟨?_, acc.toList, c', vals_signs hi, ?_⟩), rfl, q _ (I.hok.fresh (Nat.le_refl _))⟩
  · unfold sgnsV
    rw [List.length_map, Array.length_toList]
    exact hz'
  · rw [Array.toArray_toList]; exact e'
theorem call_tuple_tx (hc : X.calm = true) : CallR X (.type "tuple") rTupTx := by
  intro pins s σ H xs us Q I r h
  obtain ⟨z, e, hz, q⟩ := h
  subst e
  obtain ⟨u, eu, t, rfl⟩ := vals1 r
  subst eu
  have hz' : z.cps.size ≤ sizeLine := sz_lit hz
  refine call_tuple_str (hsz := hz') (I.ok.hd hc) z t fun h' tk acc hk hi => ?_
  have I2 : Inv X pins σ H { s with heap := h', toks := tk } := I.kept hk
  refine ⟨.ref h'.objs.size, upd H h'.objs.size (.tup (sgnsV z)), I2.laid (t' := tk) (fun c o e => Heap.get?_push_of_some _ e) (Nat.le_refl _) (show ObjOk X.prog X.w _ _ _ (.tup (sgnsV z)) from ⟨?_, acc.toList, vals_signs hi, ?_⟩), rfl, q _ (I2.hok.fresh (Nat.le_refl _))⟩
  · unfold sgnsV
    rw [List.length_map, Array.length_toList]
    exact hz'
  · rw [Array.toArray_toList]; exact IsTup.new _ _
end
section
variable {l : Addr} {σ : L2.St} {H : Hp}
theorem dt_signs {H : Hp} : ∀ cs : List Nat, DtAll H (cs.map fun c => V.str ⟨#[c]⟩) (cs.map fun c => D.str ⟨#[c]⟩)
  | [] => .nil
  | c :: cs => .cons (.str _) (dt_signs cs)
theorem mk_ltx {i : Nat} {z : Str} {o : HO} (e : σ[i]? = some (some (.str z))) (hz : z.length ≤ 1000) (hl : H l = some o) : Mk l σ (tCB rListTx (tCons (tVar i) tNil)) H (.lst (z.cps.toList.map fun c => D.str ⟨#[c]⟩)) := fun H1 s Q q => by
  refine ⟨_, e, z, rfl, hz, fun p hp => ?_⟩
  have ne : p ≠ l := fun e => by
    subst e
    rw [s _ _ hl] at hp
    cases hp
  exact q (.ref p) _ (Same.upd hp) (.lst (by rw [off_ne ne]; exact upd_same) (dt_signs _))
theorem mk_ttx {i : Nat} {z : Str} {o : HO} (e : σ[i]? = some (some (.str z))) (hz : z.length ≤ 1000) (hl : H l = some o) : Mk l σ (tCB rTupTx (tCons (tVar i) tNil)) H (.tup (z.cps.toList.map fun c => D.str ⟨#[c]⟩)) := fun H1 s Q q => by
  refine ⟨_, e, z, rfl, hz, fun p hp => ?_⟩
  have ne : p ≠ l := fun e => by
    subst e
    rw [s _ _ hl] at hp
    cases hp
  exact q (.ref p) _ (Same.upd hp) (.tup (by rw [off_ne ne]; exact upd_same) (dt_signs _))
end
end Dear

namespace Dear
open PySem PySem.Spec PyProof.Rows L2
/-- law's: a list of at most 63 ints is handed in, True comes out -/
def spLaw (K : PySem.W.Frag) : Sp := fun vs H Q _ => ∃ (a : Addr) (ns : List Int), vs = [.ref a] ∧ SqL K H a (ns.map V.int) ∧ ns.length ≤ 63 ∧ ∀ H', Q (.bl true) H'
end Dear

namespace Dear
open PySem PySem.Spec PyProof.Rows L2
/-! ### slices of texts -/
def sgn (c : Nat) : Str := ⟨#[c]⟩
theorem str_one {z : Str} (h : z.length = 1) : ∃ c, z = ⟨#[c]⟩ := by
  obtain ⟨⟨l⟩⟩ := z
  match l, h with
  | [c], _ => exact ⟨c, rfl⟩
theorem inV_strs (z : Str) : ∀ ys : List Str, inV (.str z) (ys.map V.str) = decide (z ∈ ys)
  | [] => by simp [inV]
  | y :: ys => by
    have ih := inV_strs z ys
    unfold inV at ih ⊢
    rw [List.map_cons, List.any_cons, ih]
    by_cases e : y = z
    · subst e
      simp [eqV]
    · have e' : ¬ z = y := fun q => e q.symm
      have h1 : eqV (.str y) (.str z) = false := by simp [eqV, e]
      simp [h1, e']
theorem flat_str (ys : List Str) : (ys.map V.str).all flatV = true := by
  rw [List.all_eq_true]
  intro x hx
  obtain ⟨y, _, rfl⟩ := List.mem_map.mp hx
  rfl
theorem sgn_inj {a b : Nat} (h : sgn a = sgn b) : a = b := by
  have := congrArg (fun z : Str => z.cps.toList) h
  simpa [sgn] using this
/-- the text of these code points -/
def txt (l : List Nat) : Str := ⟨l.toArray⟩
theorem txt_list (l : List Nat) : (txt l).cps.toList = l := List.toList_toArray ..
theorem txt_length (l : List Nat) : (txt l).length = l.length := List.size_toArray ..
theorem txt_of (z : Str) : z = txt z.cps.toList := by
  cases z
  rfl
theorem str_len (a b : Str) : (a ++ b).length = a.length + b.length := by
  show (a.cps ++ b.cps).size = _
  exact Array.size_append
theorem txt_inj {a b : List Nat} (h : txt a = txt b) : a = b := by
  have := congrArg (fun z : Str => z.cps.toList) h
  simpa [txt_list] using this
theorem txt_app (a b : List Nat) : txt a ++ txt b = txt (a ++ b) := by
  show (⟨a.toArray ++ b.toArray⟩ : Str) = ⟨(a ++ b).toArray⟩
  simp
theorem cut_txt (l : List Nat) (lo hi : Option Int) : cutS (txt l) lo hi = txt ((l.drop (HT.sIx l.length 0 lo)).take (HT.sIx l.length l.length hi - HT.sIx l.length 0 lo)) := by
  unfold cutS
  rw [txt_list, txt_length]
  rfl
theorem cut_pre (l : List Nat) (j : Nat) : cutS (txt l) none (some (j : Int)) = txt (l.take j) := by
  rw [cut_txt, HT.sIx_none, HT.sIx_nat, List.drop_zero, Nat.sub_zero]
  congr 1
  by_cases h : j ≤ l.length
  · rw [Nat.min_eq_left h]
  · rw [Nat.min_eq_right (by omega), List.take_length, List.take_of_length_le (by omega)]
theorem cut_from (l : List Nat) (j : Nat) : cutS (txt l) (some (j : Int)) none = txt (l.drop j) := by
  rw [cut_txt, HT.sIx_none, HT.sIx_nat]
  congr 1
  by_cases h : j ≤ l.length
  · rw [Nat.min_eq_left h, List.take_of_length_le (by rw [List.length_drop]; exact Nat.le_refl _)]
  · rw [Nat.min_eq_right (by omega), List.drop_length, List.drop_of_length_le (by omega), List.take_nil]
theorem cut_last0 : cutS (txt []) (some (-1)) none = "" := by decide +kernel
theorem cut_last (l : List Nat) (c : Nat) : cutS (txt (l ++ [c])) (some (-1)) none = txt [c] := by
  rw [cut_txt, HT.sIx_none]
  have e1 : HT.sIx (l ++ [c]).length 0 (some (-1)) = l.length := by
    show (if (-1 : Int) < 0 then (-1 + ((l ++ [c]).length : Int)).toNat else min (-1 : Int).toNat (l ++ [c]).length) = l.length
    rw [if_pos (by decide), List.length_append]
    show (-1 + ((l.length + 1 : Nat) : Int)).toNat = _
    omega
  rw [e1, List.drop_left, List.take_of_length_le]
  rw [List.length_append]
  show 1 ≤ l.length + 1 - l.length
  omega
theorem cut_init {l : List Nat} {e : Nat} : cutS (txt (l ++ [e])) none (some (-1)) = txt l := by
  have e1 : HT.sIx (l ++ [e]).length (l ++ [e]).length (some (-1)) = l.length := by
    show (if (-1 : Int) < 0 then (-1 + ((l ++ [e]).length : Int)).toNat else min (-1 : Int).toNat (l ++ [e]).length) = l.length
    rw [if_pos (by decide), List.length_append]
    show (-1 + ((l.length + 1 : Nat) : Int)).toNat = _
    omega
  rw [cut_txt, HT.sIx_none, e1, List.drop_zero, Nat.sub_zero, List.take_left]
theorem at_last {l : List Nat} {e : Nat} : atI (txt (l ++ [e])).cps.toList (-1) = some e := by
  rw [txt_list]
  unfold atI ixN
  rw [if_neg (by decide), if_pos (by rw [List.length_append]; show -((l.length + 1 : Nat) : Int) ≤ -1; omega)]
  have e1 : (-1 + ((l ++ [e]).length : Int)).toNat = l.length := by
    rw [List.length_append]
    show (-1 + ((l.length + 1 : Nat) : Int)).toNat = _
    omega
  rw [e1]
  show (l ++ [e])[l.length]? = some e
  rw [List.getElem?_append_right (Nat.le_refl _), Nat.sub_self]
  rfl
theorem sgn_txt (c : Nat) : sgn c = txt [c] := rfl
theorem txt_snoc (l : List Nat) (c : Nat) : txt l ++ sgn c = txt (l ++ [c]) := by
  show (⟨l.toArray ++ #[c]⟩ : Str) = ⟨(l ++ [c]).toArray⟩
  simp
/-- the sign ahead of the j-th one -/
def aheadOf (l : List Nat) (j : Nat) : Str := cutS (cutS (txt l) none (some (j : Int))) (some (-1)) none
theorem ahead_zero (l : List Nat) : aheadOf l 0 = "" := by
  unfold aheadOf
  rw [cut_pre, List.take_zero]
  exact cut_last0
theorem ahead_succ {l : List Nat} {j : Nat} {c : Nat} (h : l[j]? = some c) : aheadOf l (j + 1) = txt [c] := by
  unfold aheadOf
  rw [cut_pre, List.take_add_one, h, Option.toList_some, cut_last]
end Dear

namespace Dear
open PySem PySem.Spec PyProof.Rows L2
/-! ### data of tuples alone: they stay whatever lists are changed -/
mutual
def Pu : D → Prop
  | .lst _ => False
  | .dct => False
  | .tup ds => PuAll ds
  | _ => True
def PuAll : List D → Prop
  | [] => True
  | d :: ds => Pu d ∧ PuAll ds
end
def TP (H H' : Hp) : Prop := ∀ b xs, H b = some (.tup xs) → H' b = some (.tup xs)
theorem TP.refl (H : Hp) : TP H H := fun _ _ h => h
theorem TP.trans {H H1 H2 : Hp} (a : TP H H1) (b : TP H1 H2) : TP H H2 := fun c xs h => b c xs (a c xs h)
theorem TP.same {H H' : Hp} (s : Same H H') : TP H H' := fun b xs h => s b _ h
theorem TP.but {l : Addr} {H H' : Hp} (s : But l H H') {xs : List V} (hl : H l = some (.lst xs)) : TP H H' := fun b ys h => s b _ h (ne_of h hl (by intro z; cases z))
theorem TP.src {l : Addr} {H H' : Hp} (s : But l H H') (hl : Src H l) : TP H H' := by
  obtain ⟨n, z, e, _⟩ := hl
  exact TP.but s e
theorem TP.upd {H : Hp} {p : Addr} {xs : List V} {o : HO} (h : H p = some (.lst xs)) : TP H (L2.upd H p o) := fun b ys e => by
  rw [upd_ne (ne_of e h (by intro z; cases z))]
  exact e
mutual
theorem Dt.tp {H H' : Hp} (t : TP H H') : ∀ {v : V} {d : D}, Pu d → Dt H v d → Dt H' v d
  | _, _, _, .non => .non
  | _, _, _, .bl b => .bl b
  | _, _, _, .int i => .int i
  | _, _, _, .str z => .str z
  | _, _, p, .lst _ _ => p.elim
  | _, _, p, .tup h a => .tup (t _ _ h) (DtAll.tp t p a)
  | _, _, p, .dct _ => p.elim
theorem DtAll.tp {H H' : Hp} (t : TP H H') : ∀ {vs : List V} {ds : List D}, PuAll ds → DtAll H vs ds → DtAll H' vs ds
  | _, _, _, .nil => .nil
  | _, _, p, .cons a b => .cons (Dt.tp t p.1 a) (DtAll.tp t p.2 b)
end
theorem PuAll.app : ∀ {ds es : List D}, PuAll ds → PuAll es → PuAll (ds ++ es)
  | [], _, _, h => h
  | _ :: _, _, a, h => ⟨a.1, PuAll.app a.2 h⟩
theorem OkAll.app : ∀ {ds es : List D}, OkAll ds → OkAll es → OkAll (ds ++ es)
  | [], _, _, h => h
  | _ :: _, _, a, h => ⟨a.1, OkAll.app a.2 h⟩
theorem DtAll.strs {H : Hp} : ∀ {xs : List V} {pre : List Str}, DtAll H xs (pre.map D.str) → xs = pre.map V.str
  | _, [], .nil => rfl
  | _, _ :: _, .cons (.str z) t => by
    rw [DtAll.strs t]
    rfl
theorem DtAll.take {H : Hp} : ∀ {xs : List V} {ds : List D} (n : Nat), DtAll H xs ds → DtAll H (xs.take n) (ds.take n)
  | _, _, 0, _ => .nil
  | _, _, _ + 1, .nil => .nil
  | _, _, n + 1, .cons a b => .cons a (DtAll.take n b)
theorem drop_get {α : Type} {l : List α} {i : Nat} {x : α} (h : l[i]? = some x) : l.drop i = x :: l.drop (i + 1) := by
  obtain ⟨h1, h2⟩ := List.getElem?_eq_some_iff.mp h
  rw [List.drop_eq_getElem_cons h1, h2]
theorem take_more {α : Type} {l : List α} {i : Nat} {x : α} (h : l[i]? = some x) : l.take (i + 1) = l.take i ++ [x] := by
  rw [List.take_succ, h]
  rfl
end Dear

namespace Dear
open PySem PySem.Spec PyProof.Rows L2
/-! ### data as the library's, for == -/
mutual
def py : D → PyData
  | .non => .none
  | .bl b => .bool b
  | .int i => .int i
  | .str z => .str z
  | .lst ds => .list (pyAll ds)
  | .tup ds => .tuple (pyAll ds)
  | .dct => .none
def pyAll : List D → List PyData
  | [] => []
  | d :: ds => py d :: pyAll ds
end
mutual
def NoD : D → Prop
  | .dct => False
  | .lst ds => NoDAll ds
  | .tup ds => NoDAll ds
  | _ => True
def NoDAll : List D → Prop
  | [] => True
  | d :: ds => NoD d ∧ NoDAll ds
end
mutual
theorem Dt.dp {K : PySem.W.Frag} {H : Hp} : ∀ {v : V} {d : D}, NoD d → Dt H v d → Dp K H v (py d)
  | _, _, _, .non => .non
  | _, _, _, .bl b => .bl b
  | _, _, _, .int i => .int i
  | _, _, _, .str z => .str z
  | _, _, n, .lst h a => .lst (SqL.of h) (DtAll.dp n a)
  | _, _, n, .tup h a => .tup (SqT.of h) (DtAll.dp n a)
  | _, _, n, .dct _ => n.elim
theorem DtAll.dp {K : PySem.W.Frag} {H : Hp} : ∀ {vs : List V} {ds : List D}, NoDAll ds → DtAll H vs ds → DpAll K H vs (pyAll ds)
  | _, _, _, .nil => .nil
  | _, _, n, .cons a b => .cons (Dt.dp n.1 a) (DtAll.dp n.2 b)
end
mutual
theorem lay_py : ∀ {d : D}, Ok d → NoD d → PyData.canLay0 (py d) = true
  | .non, _, _ => rfl
  | .bl _, _, _ => rfl
  | .int _, _, _ => rfl
  | .str _, o, _ => strOk_asc o.2
  | .lst _, o, n => layAll_py o n
  | .tup _, o, n => layAll_py o n
  | .dct, _, n => n.elim
theorem layAll_py : ∀ {ds : List D}, OkAll ds → NoDAll ds → PyData.canLayAll0 (pyAll ds) = true
  | [], _, _ => rfl
  | d :: ds, o, n => by
    show (PyData.canLay0 (py d) && PyData.canLayAll0 (pyAll ds)) = true
    rw [lay_py o.1 n.1, layAll_py o.2 n.2]
    rfl
end
/-! how deep -/
mutual
def dep : D → Nat
  | .lst ds => depAll ds + 1
  | .tup ds => depAll ds + 1
  | _ => 0
def depAll : List D → Nat
  | [] => 0
  | d :: ds => max (dep d) (depAll ds)
end
mutual
theorem dep_py : ∀ d : D, PyData.depth (py d) = dep d
  | .non => rfl
  | .bl _ => rfl
  | .int _ => rfl
  | .str _ => rfl
  | .lst ds => congrArg (· + 1) (depAll_py ds)
  | .tup ds => congrArg (· + 1) (depAll_py ds)
  | .dct => rfl
theorem depAll_py : ∀ ds : List D, PyData.depthAll (pyAll ds) = depAll ds
  | [] => rfl
  | d :: ds => by
    show max (PyData.depth (py d)) (PyData.depthAll (pyAll ds)) = max (dep d) (depAll ds)
    rw [dep_py d, depAll_py ds]
end
theorem shaped_py {d : D} (o : Ok d) (n : NoD d) (h : dep d ≤ 64) : SeqAt.shaped (py d) = true := by
  show (PyData.canLay0 (py d) && decide (PyData.depth (py d) ≤ 64)) = true
  rw [lay_py o n, dep_py, decide_eq_true h]
  rfl
theorem depAll_le : ∀ {ds : List D} {n : Nat}, (∀ d ∈ ds, dep d ≤ n) → depAll ds ≤ n
  | [], _, _ => Nat.zero_le _
  | d :: ds, n, h => Nat.max_le.mpr ⟨h d List.mem_cons_self, depAll_le fun x hx => h x (List.mem_cons_of_mem _ hx)⟩
theorem noAll_of : ∀ {ds : List D}, (∀ d ∈ ds, NoD d) → NoDAll ds
  | [], _ => trivial
  | d :: ds, h => ⟨h d List.mem_cons_self, noAll_of fun x hx => h x (List.mem_cons_of_mem _ hx)⟩
theorem strs_flat (zs : List Str) : (∀ d ∈ zs.map D.str, dep d ≤ 0) ∧ ∀ d ∈ zs.map D.str, NoD d := by
  constructor <;> intro d hd <;> obtain ⟨z, _, rfl⟩ := List.mem_map.mp hd
  · exact Nat.le_refl _
  · trivial
theorem eqv_same {d : PyData} (h : SeqAt.shaped d = true) : PyData.eqv d d = true := SeqAt.eqv_refl _ (SeqAt.canLay_of_shaped h)
end Dear

namespace Dear
open PySem PySem.Spec PyProof.Rows L2
/-! ### text * number -/
theorem fold_rep (a : Array Nat) : ∀ (k : Nat) (acc : Array Nat), ((List.replicate k a).foldl (· ++ ·) acc).toList = acc.toList ++ (List.replicate k a.toList).flatten
  | 0, acc => by simp
  | k + 1, acc => by
    rw [List.replicate_succ, List.replicate_succ, List.foldl_cons, fold_rep a k, List.flatten_cons, Array.toList_append, List.append_assoc]
def repT (l : List Nat) (k : Nat) : List Nat := (List.replicate k l).flatten
theorem repT_len (l : List Nat) (k : Nat) : (repT l k).length = k * l.length := by
  unfold repT
  simp
def rRepS : R2 := fun x y H Q => ∃ (l : List Nat) (n : Int), x = .str (txt l) ∧ y = .int n ∧ 0 ≤ n ∧ n ≤ 1000 ∧ l.length ≤ 1000 ∧ Q (.str (txt (repT l n.toNat))) H
theorem op_repS {X : Cx} : OpR X (binaryOp .Mult) rRepS := by
  intro pins s σ H x y v u Q I rx ry h
  obtain ⟨l, n, rfl, rfl, h0, h1, hl, q⟩ := h
  obtain ⟨t, rfl⟩ := rx
  obtain ⟨t', rfl⟩ := ry
  have ln := txt_length l
  have big : l.length * n.toNat ≤ 1000 * 1000 := Nat.mul_le_mul hl (by omega)
  refine PySem.P.mul_str (x := txt l) (by rw [decide_eq_false (by omega), decide_eq_false (by omega)]; rfl) (fun h2 _ => ?_) (fun _ _ => ?_) ?_
  · have h3 : 0 < n := by omega
    have h4 : ((txt l).length : Int) ≤ (2 ^ 63 - 1) / n := by
      rw [Int.le_ediv_iff_mul_le h3, ln]
      have e : ((l.length * n.toNat : Nat) : Int) = (l.length : Int) * n := by
        rw [Int.natCast_mul, Int.toNat_of_nonneg h0]
      rw [← e]
      omega
    omega
  · unfold Builtin.Str.tooLong
    rw [ln]
    refine decide_eq_false ?_
    have := sz_lit (n := 0) (by decide)
    rw [sizeLine_eq]
    omega
  · by_cases e1 : n < 1
    · rw [if_pos e1]
      have e2 : n = 0 := by omega
      subst e2
      exact ⟨by decide, .str (txt (repT l 0)), H, I.tok _, ⟨_, rfl⟩, q⟩
    · rw [if_neg e1]
      by_cases e2 : (n == 1 || (txt l).length == 0) = true
      · rw [if_pos e2]
        have e3 : repT l n.toNat = l := by
          rw [ln] at e2
          simp only [Bool.or_eq_true, beq_iff_eq] at e2
          rcases e2 with e2 | e2
          · subst e2
            simp [repT]
          · have e3 : l = [] := List.length_eq_zero_iff.mp e2
            subst e3
            simp [repT]
        rw [e3] at q
        exact ⟨.str (txt l), H, I, ⟨_, rfl⟩, q⟩
      · rw [if_neg e2]
        have e3 : (⟨(List.replicate n.toNat (txt l).cps).foldl (· ++ ·) #[]⟩ : Str) = txt (repT l n.toNat) := by
          rw [txt_of ⟨(List.replicate n.toNat (txt l).cps).foldl (· ++ ·) #[]⟩]
          congr 1
          show ((List.replicate n.toNat (txt l).cps).foldl (· ++ ·) #[]).toList = _
          rw [fold_rep, txt_list]
          rfl
        rw [e3]
        refine ⟨?_, .str (txt (repT l n.toNat)), H, I.tok _, ⟨_, rfl⟩, q⟩
        rw [txt_length, repT_len, Nat.mul_comm, sizeLine_eq]
        omega
end Dear

namespace Dear
open PySem PySem.Spec PyProof.Rows L2
/-! ### names and wants as author B's laws draw them -/
def letN (i : Nat) : Nat := letters.cps.toList.getD i 0
def sufL (a : Nat) : List Nat := if a / 26 = 0 then [] else if a / 26 = 1 then [97] else [122, 122]
def tellL (a : Nat) : List Nat := letN (a % 26) :: sufL a
def moreL (s : Nat) : List Nat := repT [letN (s % 26)] (s / 26 % 6)
def nameL (k s : Nat) : List Nat := if s % 2 = 0 then moreL s ++ tellL ((37 * k + s) % 61) else tellL ((37 * k + s) % 61) ++ moreL s
theorem letN_at {i : Nat} (h : i < 26) : letters.cps.toList[i]? = some (letN i) := by
  have hl : i < letters.cps.toList.length := by
    rw [show letters.cps.toList.length = 26 from by decide +kernel]
    exact h
  unfold letN
  rw [List.getD_eq_getElem?_getD, List.getElem?_eq_getElem hl]
  rfl
theorem letN_mem {i : Nat} (h : i < 26) : letN i ∈ letters.cps.toList := List.mem_of_getElem? (letN_at h)
theorem letN_atI {i : Nat} (h : i < 26) : atI letters.cps.toList (i : Int) = some (letN i) := atI_nat (letN_at h)
theorem suf_mem (a : Nat) : ∀ c ∈ sufL a, c ∈ letters.cps.toList := by
  unfold sufL
  split
  · exact fun _ h => nomatch h
  · split
    · decide +kernel
    · decide +kernel
theorem suf_len (a : Nat) : (sufL a).length ≤ 2 := by
  unfold sufL
  split
  · decide
  · split <;> decide
theorem tell_inj : ∀ a < 61, ∀ b < 61, tellL a = tellL b → a = b := by decide +kernel
theorem name_of (k s : Nat) : (∀ c ∈ nameL k s, c ∈ letters.cps.toList) ∧ 1 ≤ (nameL k s).length ∧ (nameL k s).length ≤ 8 := by
  have m1 : ∀ c ∈ moreL s, c ∈ letters.cps.toList := fun c hc => by
    unfold moreL repT at hc
    obtain ⟨l, hl, hc⟩ := List.mem_flatten.mp hc
    have := List.eq_of_mem_replicate hl
    subst this
    have : c = letN (s % 26) := by simpa using hc
    subst this
    exact letN_mem (Nat.mod_lt _ (by decide))
  have m2 : (moreL s).length ≤ 5 := by
    unfold moreL
    rw [repT_len]
    show s / 26 % 6 * 1 ≤ 5
    omega
  have t1 : ∀ a, ∀ c ∈ tellL a, c ∈ letters.cps.toList := fun a c hc => by
    rcases List.mem_cons.mp hc with rfl | hc
    · exact letN_mem (Nat.mod_lt _ (by decide))
    · exact suf_mem a c hc
  have t2 : ∀ a, (tellL a).length = (sufL a).length + 1 := fun _ => rfl
  have t3 := suf_len ((37 * k + s) % 61)
  have t4 := t2 ((37 * k + s) % 61)
  unfold nameL
  split
  · refine ⟨fun c hc => ?_, ?_, ?_⟩
    · rcases List.mem_append.mp hc with hc | hc
      · exact m1 c hc
      · exact t1 _ c hc
    · rw [List.length_append]; omega
    · rw [List.length_append]; omega
  · refine ⟨fun c hc => ?_, ?_, ?_⟩
    · rcases List.mem_append.mp hc with hc | hc
      · exact t1 _ c hc
      · exact m1 c hc
    · rw [List.length_append]; omega
    · rw [List.length_append]; omega
theorem name_inj {s i j : Nat} (hi : i < 61) (hj : j < 61) (h : nameL i s = nameL j s) : i = j := by
  have e : tellL ((37 * i + s) % 61) = tellL ((37 * j + s) % 61) := by
    unfold nameL at h
    split at h
    · exact List.append_cancel_left h
    · exact List.append_cancel_right h
  have := tell_inj _ (Nat.mod_lt _ (by decide)) _ (Nat.mod_lt _ (by decide)) e
  omega
/-! ### wants -/
def wantD (w : List Nat × Int) : D := .tup [.str (txt w.1), .int w.2]
structure WOk (w : List Nat × Int) : Prop where
  l : ∀ c ∈ w.1, c ∈ letters.cps.toList
  n1 : 1 ≤ w.1.length
  n8 : w.1.length ≤ 8
  c0 : 0 ≤ w.2
  c9 : w.2 ≤ 1000000000
structure WsOk (ws : List (List Nat × Int)) : Prop where
  all : ∀ w ∈ ws, WOk w
  nd : (ws.map Prod.fst).Nodup
theorem names_nodup (s n : Nat) (h : n ≤ 61) : ((List.range n).map fun k => nameL k s).Nodup := by
  rw [List.nodup_iff_pairwise_ne, List.pairwise_map]
  refine List.Pairwise.imp_of_mem ?_ (List.nodup_iff_pairwise_ne.mp List.nodup_range)
  intro a b ha hb hne e
  exact hne (name_inj (by have := List.mem_range.mp ha; omega) (by have := List.mem_range.mp hb; omega) e)
def isWant : D → Bool
  | .tup [a, .int c] => isNm a && decide (0 ≤ c ∧ c ≤ 1000000000)
  | _ => false
def nameD : D → Str
  | .tup (.str z :: _) => z
  | _ => ""
/-- the first that can't stand -/
def badAt (i : Nat) : List Str → List D → Option V
  | _, [] => none
  | seen, d :: r => if isWant d && !decide (nameD d ∈ seen) then badAt (i + 1) (seen ++ [nameD d]) r else some (.int (i : Nat))
def wantsBad : D → Option V
  | .lst ds => if 1 ≤ ds.length ∧ ds.length ≤ 20 then badAt 0 [] ds else some .non
  | _ => some .non
theorem nm_txt {l : List Nat} (h : ∀ c ∈ l, c ∈ letters.cps.toList) (h1 : 1 ≤ l.length) (h8 : l.length ≤ 8) : isNm (.str (txt l)) = true := by
  show (decide (1 ≤ (txt l).length ∧ (txt l).length ≤ 8) && (txt l).cps.toList.all fun c => decide (c ∈ letters.cps.toList)) = true
  rw [txt_length, txt_list, decide_eq_true ⟨h1, h8⟩, Bool.true_and, List.all_eq_true]
  exact fun c hc => decide_eq_true (h c hc)
theorem WOk.is {w : List Nat × Int} (h : WOk w) : isWant (wantD w) = true := by
  show (isNm (.str (txt w.1)) && decide (0 ≤ w.2 ∧ w.2 ≤ 1000000000)) = true
  rw [nm_txt h.l h.n1 h.n8, decide_eq_true ⟨h.c0, h.c9⟩]
  rfl
theorem bad_none : ∀ {ws : List (List Nat × Int)} {seen : List (List Nat)} {i : Nat}, (∀ w ∈ ws, WOk w) → (seen ++ ws.map Prod.fst).Nodup → badAt i (seen.map txt) (ws.map wantD) = none
  | [], _, _, _, _ => rfl
  | w :: ws, seen, i, h, nd => by
    have h1 := (h w List.mem_cons_self).is
    have h2 : ¬ txt w.1 ∈ seen.map txt := fun q => by
      obtain ⟨l, hl, e⟩ := List.mem_map.mp q
      have e := txt_inj e
      subst e
      exact (List.nodup_append.mp nd).2.2 _ hl _ (List.mem_cons_self ..) rfl
    show (if isWant (wantD w) && !decide (txt w.1 ∈ seen.map txt) then badAt (i + 1) (seen.map txt ++ [txt w.1]) (ws.map wantD) else _) = none
    rw [h1, decide_eq_false h2, if_pos (by rfl)]
    have := bad_none (ws := ws) (seen := seen ++ [w.1]) (i := i + 1) (fun x hx => h x (List.mem_cons_of_mem _ hx)) (by rw [List.append_assoc]; exact nd)
    rw [List.map_append] at this
    exact this
theorem wants_good {ws : List (List Nat × Int)} (h : WsOk ws) (h1 : 1 ≤ ws.length) (h2 : ws.length ≤ 20) : wantsBad (.lst (ws.map wantD)) = none := by
  show (if 1 ≤ (ws.map wantD).length ∧ (ws.map wantD).length ≤ 20 then badAt 0 [] (ws.map wantD) else some .non) = none
  rw [List.length_map, if_pos ⟨h1, h2⟩]
  exact bad_none (seen := []) h.all h.nd
theorem WOk.facts {w : List Nat × Int} (h : WOk w) : Ok (wantD w) ∧ NoD (wantD w) ∧ dep (wantD w) ≤ 1 := by
  refine ⟨⟨⟨?_, fun c hc => ?_⟩, ?_, trivial⟩, ⟨trivial, trivial, trivial⟩, Nat.le_refl _⟩
  · rw [txt_length]
    have := h.n8
    omega
  · rw [txt_list] at hc
    exact in_letters_asc (h.l c hc)
  · have h1 := h.c0
    have h2 := h.c9
    exact Nat.lt_of_lt_of_le (show w.2.natAbs < 2 ^ 40 by omega) (Nat.pow_le_pow_right (by decide) (by decide))
theorem wants_facts {ws : List (List Nat × Int)} (h : ∀ w ∈ ws, WOk w) : Ok (.lst (ws.map wantD)) ∧ NoD (.lst (ws.map wantD)) ∧ dep (.lst (ws.map wantD)) ≤ 64 := by
  refine ⟨?_, ?_, ?_⟩
  · show OkAll (ws.map wantD)
    induction ws with
    | nil => trivial
    | cons w r ih => exact ⟨(h w List.mem_cons_self).facts.1, ih fun x hx => h x (List.mem_cons_of_mem _ hx)⟩
  · refine noAll_of fun d hd => ?_
    obtain ⟨w, hw, rfl⟩ := List.mem_map.mp hd
    exact (h w hw).facts.2.1
  · have := depAll_le (ds := ws.map wantD) (n := 1) fun d hd => by
      obtain ⟨w, hw, rfl⟩ := List.mem_map.mp hd
      exact (h w hw).facts.2.2
    show depAll (ws.map wantD) + 1 ≤ 64
    omega
end Dear

namespace Dear
open PySem PySem.Spec PyProof.Rows L2
/-! ### what a display makes, of new objects alone -/
def New (H0 H : Hp) : Hp := fun b => if (H0 b).isSome then none else H b
theorem new_at {H0 H : Hp} {b : Addr} (h : H0 b = none) : New H0 H b = H b := by
  unfold New
  rw [h]
  rfl
theorem new_some {H0 H : Hp} {b : Addr} {o : HO} (h : New H0 H b = some o) : H0 b = none ∧ H b = some o := by
  unfold New at h
  cases e : H0 b with
  | none =>
    rw [e] at h
    exact ⟨rfl, h⟩
  | some u =>
    rw [e] at h
    cases h
theorem New.sub (H0 H : Hp) : Same (New H0 H) H := fun _ _ e => (new_some e).2
theorem New.mono {H0 H H' : Hp} (s : Same H H') : Same (New H0 H) (New H0 H') := fun b o e => by
  obtain ⟨h1, h2⟩ := new_some e
  rw [new_at h1]
  exact s _ _ h2
theorem New.but {H0 H H' : Hp} {l : Addr} {o : HO} (hl : H0 l = some o) (s : But l H H') : Same (New H0 H) (New H0 H') := fun b o e => by
  obtain ⟨h1, h2⟩ := new_some e
  rw [new_at h1]
  exact s _ _ h2 fun z => by
    rw [z, hl] at h1
    cases h1
theorem New.off {H0 H : Hp} {l : Addr} {o : HO} (hl : H0 l = some o) : Same (New H0 H) (Off l H) := fun b o e => by
  obtain ⟨h1, h2⟩ := new_some e
  rw [off_ne fun z => by
    rw [z, hl] at h1
    cases h1]
  exact h2
/-- one base heap in the other's place -/
theorem New.base {H0 H1 H : Hp} (s : Same H0 H1) : Same (New H1 H) (New H0 H) := fun b o e => by
  obtain ⟨h1, h2⟩ := new_some e
  rw [new_at]
  · exact h2
  · cases q : H0 b with
    | none => rfl
    | some u =>
      rw [s _ _ q] at h1
      cases h1
theorem same_none {H0 H1 : Hp} {p : Addr} (s : Same H0 H1) (h : H1 p = none) : H0 p = none := by
  cases q : H0 p with
  | none => rfl
  | some u =>
    rw [s _ _ q] at h
    cases h
def MkN (σ : L2.St) (t : TE) (H : Hp) (d : D) : Prop := ∀ H1, Same H H1 → ∀ Q : VK, (∀ v H2, Same H1 H2 → Dt (New H H2) v d → Q v H2) → t σ H1 Q
def MkNA (σ : L2.St) (t : TA) (H : Hp) (ds : List D) : Prop := ∀ H1, Same H H1 → ∀ Q : List V → Hp → Prop, (∀ vs H2, Same H1 H2 → DtAll (New H H2) vs ds → Q vs H2) → t σ H1 Q
section
variable {σ : L2.St} {H : Hp}
theorem mkn_c {v : V} {d : D} (h : ∀ H', Dt H' v d) : MkN σ (tC v) H d := fun H1 _ _ q => q v H1 (Same.refl _) (h _)
theorem mkn_var {i : Nat} {v : V} {d : D} (e : σ[i]? = some (some v)) (h : ∀ H', Dt H' v d) : MkN σ (tVar i) H d := fun H1 _ _ q => ⟨v, e, q v H1 (Same.refl _) (h _)⟩
/-- a number, reckoned -/
theorem mkn_i {t : TE} {i : Int} (h : ∀ (H1 : Hp) (Q : VK), Q (.int i) H1 → t σ H1 Q) : MkN σ t H (.int i) := fun H1 _ Q q => h H1 Q (q _ H1 (Same.refl _) (.int i))
theorem mkna_nil : MkNA σ tNil H [] := fun H1 _ _ q => q [] H1 (Same.refl _) .nil
theorem mkna_cons {t : TE} {u : TA} {d : D} {ds : List D} (h1 : MkN σ t H d) (h2 : MkNA σ u H ds) : MkNA σ (tCons t u) H (d :: ds) := fun H1 s Q q => by
  refine h1 H1 s _ fun v H2 s2 d2 => ?_
  refine h2 H2 (s.trans s2) _ fun vs H3 s3 d3 => ?_
  exact q (v :: vs) H3 (s2.trans s3) (.cons (d2.same (New.mono s3)) d3)
theorem mkn_tup {u : TA} {ds : List D} (h : MkNA σ u H ds) (hz : Nat.ble ds.length 1000 = true := by rfl) : MkN σ (tTup u) H (.tup ds) := fun H1 s Q q => by
  refine h H1 s _ fun vs H2 s2 d2 => ?_
  refine ⟨sz_lit (by rw [d2.length]; exact Nat.le_of_ble_eq_true hz), fun p hp => ?_⟩
  exact q (.ref p) _ (s2.trans (Same.upd hp)) (.tup (by rw [new_at (same_none (s.trans s2) hp)]; exact upd_same) (d2.same (New.mono (Same.upd hp))))
theorem mkn_lst {u : TA} {ds : List D} (h : MkNA σ u H ds) (hz : Nat.ble ds.length 1000 = true := by rfl) : MkN σ (tLst u) H (.lst ds) := fun H1 s Q q => by
  refine h H1 s _ fun vs H2 s2 d2 => ?_
  refine ⟨sz_lit (by rw [d2.length]; exact Nat.le_of_ble_eq_true hz), fun p hp => ?_⟩
  exact q (.ref p) _ (s2.trans (Same.upd hp)) (.lst (by rw [new_at (same_none (s.trans s2) hp)]; exact upd_same) (d2.same (New.mono (Same.upd hp))))
theorem mkn_dnew : MkN σ tDNewK H .dct := fun H1 s Q q p hp => q (.ref p) _ (Same.upd hp) (.dct (by rw [new_at (same_none s hp)]; exact upd_same))
theorem mkn_neg {i : Int} : MkN σ (tUn (rU fun i => .int (-i)) (tC (.int i))) H (.int (-i)) := fun H1 _ _ q => ⟨i, rfl, q _ H1 (Same.refl _) (.int _)⟩
theorem MkN.go {t : TE} {d : D} (h : MkN σ t H d) {Q : VK} (q : ∀ v H2, Same H H2 → Dt (New H H2) v d → Q v H2) : t σ H Q := h H (Same.refl H) Q q
theorem MkNA.go {t : TA} {ds : List D} (h : MkNA σ t H ds) {Q : List V → Hp → Prop} (q : ∀ vs H2, Same H H2 → DtAll (New H H2) vs ds → Q vs H2) : t σ H Q := h H (Same.refl H) Q q
end
section
variable {σ : L2.St} {H : Hp}
theorem s_tup {u : TA} {Q : VK} (h : u σ H fun vs H' => vs.length ≤ sizeLine ∧ ∀ p, H' p = none → Q (.ref p) (upd H' p (.tup vs))) : tTup u σ H Q := h
theorem s_lst {u : TA} {Q : VK} (h : u σ H fun vs H' => vs.length ≤ sizeLine ∧ ∀ p, H' p = none → Q (.ref p) (upd H' p (.lst vs))) : tLst u σ H Q := h
theorem s_cons {t : TE} {u : TA} {Q : List V → Hp → Prop} (h : t σ H fun v H1 => u σ H1 fun vs H2 => Q (v :: vs) H2) : tCons t u σ H Q := h
end
/-! data that avoid l and avoid q avoid both -/
mutual
theorem Dt.off2 {H : Hp} {l q : Addr} : ∀ {v : V} {d : D}, Dt (Off l H) v d → Dt (Off q H) v d → Dt (Off q (Off l H)) v d
  | _, _, .non, _ => .non
  | _, _, .bl b, _ => .bl b
  | _, _, .int i, _ => .int i
  | _, _, .str z, _ => .str z
  | _, _, .lst h1 a1, .lst h2 a2 => by
    obtain ⟨n1, e1⟩ := off_some h1
    obtain ⟨n2, e2⟩ := off_some h2
    rw [e1] at e2
    cases e2
    exact .lst (by rw [off_ne n2, off_ne n1]; exact e1) (DtAll.off2 a1 a2)
  | _, _, .tup h1 a1, .tup h2 a2 => by
    obtain ⟨n1, e1⟩ := off_some h1
    obtain ⟨n2, e2⟩ := off_some h2
    rw [e1] at e2
    cases e2
    exact .tup (by rw [off_ne n2, off_ne n1]; exact e1) (DtAll.off2 a1 a2)
  | _, _, .dct h1, .dct h2 => by
    obtain ⟨n1, e1⟩ := off_some h1
    obtain ⟨n2, e2⟩ := off_some h2
    exact .dct (by rw [off_ne n2, off_ne n1]; exact e1)
theorem DtAll.off2 {H : Hp} {l q : Addr} : ∀ {vs : List V} {ds : List D}, DtAll (Off l H) vs ds → DtAll (Off q H) vs ds → DtAll (Off q (Off l H)) vs ds
  | _, _, .nil, _ => .nil
  | _, _, .cons a b, .cons c d => .cons (Dt.off2 a c) (DtAll.off2 b d)
end
theorem TP.off {H : Hp} {l : Addr} {xs : List V} (h : H l = some (.lst xs)) : TP H (Off l H) := fun b ys e => by
  rw [off_ne (ne_of e h (by intro z; cases z))]
  exact e
theorem lt300 {n : Nat} (h : n < 2 ^ 200) : n < 2 ^ 300 := Nat.lt_of_lt_of_le h (Nat.pow_le_pow_right (by decide) (by decide))
theorem cutV_pre (l : List V) (j : Nat) : cutV l none (some (j : Int)) = l.take j := by
  unfold cutV
  rw [HT.sIx_none, HT.sIx_nat, List.drop_zero, Nat.sub_zero]
  by_cases h : j ≤ l.length
  · rw [Nat.min_eq_left h]
  · rw [Nat.min_eq_right (by omega), List.take_length, List.take_of_length_le (by omega)]
theorem cutV_from (l : List V) (j : Nat) : cutV l (some (j : Int)) none = l.drop j := by
  unfold cutV
  rw [HT.sIx_none, HT.sIx_nat]
  by_cases h : j ≤ l.length
  · rw [Nat.min_eq_left h, List.take_of_length_le (by rw [List.length_drop]; exact Nat.le_refl _)]
  · rw [Nat.min_eq_right (by omega), List.drop_length, List.drop_of_length_le (by omega), List.take_nil]
theorem DtAll.drop {H : Hp} : ∀ {vs : List V} {ds : List D} (n : Nat), DtAll H vs ds → DtAll H (vs.drop n) (ds.drop n)
  | _, _, 0, h => h
  | _, _, _ + 1, .nil => .nil
  | _, _, n + 1, .cons _ b => DtAll.drop n b
theorem DtAll.set {H : Hp} {v : V} {d : D} (h : Dt H v d) : ∀ {vs : List V} {ds : List D} (n : Nat), DtAll H vs ds → DtAll H (vs.set n v) (ds.set n d)
  | _, _, _, .nil => .nil
  | _, _, 0, .cons _ b => .cons h b
  | _, _, n + 1, .cons a b => .cons a (DtAll.set h n b)
theorem OkAll.take : ∀ {ds : List D} (n : Nat), OkAll ds → OkAll (ds.take n)
  | _, 0, _ => trivial
  | [], _ + 1, _ => trivial
  | _ :: _, n + 1, h => ⟨h.1, OkAll.take n h.2⟩
theorem OkAll.drop : ∀ {ds : List D} (n : Nat), OkAll ds → OkAll (ds.drop n)
  | _, 0, h => h
  | [], _ + 1, _ => trivial
  | _ :: _, n + 1, h => OkAll.drop n h.2
theorem OkAll.set {d : D} (h : Ok d) : ∀ {ds : List D} (n : Nat), OkAll ds → OkAll (ds.set n d)
  | [], _, _ => trivial
  | _ :: _, 0, g => ⟨h, g.2⟩
  | _ :: _, n + 1, g => ⟨g.1, OkAll.set h n g.2⟩
/-- a list's item at a drawn place -/
theorem pickN {H0 H : Hp} {xs : List V} {ds : List D} (hall : DtAll (New H0 H) xs ds) (ok : OkAll ds) {r : Int} (r0 : 0 ≤ r) (r1 : r < ds.length) : ∃ (v : V) (d : D), atI xs r = some v ∧ Dt (New H0 H) v d ∧ Ok d := by
  obtain ⟨v, hv, _, hr⟩ := at_lt (xs := xs) r0 (by rw [hall.length]; exact r1)
  obtain ⟨d, hd, h⟩ := hall.get hr
  exact ⟨v, d, hv, h, ok.mem (List.mem_of_getElem? hd)⟩
theorem okS {z : Str} (h : z.length ≤ 3000 := by decide +kernel) (a : Asc z := by decide +kernel) : Ok (.str z) := ⟨h, a⟩
theorem okI {i : Int} (h : i.natAbs < 2 ^ 200 := by decide) : Ok (.int i) := lt300 h
theorem But.none {l p : Addr} {H H' : Hp} (B : But l H H') (h : H' p = none) (ne : p ≠ l) : H p = none := by
  cases e : H p with
  | none => rfl
  | some o =>
    rw [B _ _ e ne] at h
    cases h
theorem new_back {H H1 H2 : Hp} {l : Addr} (B : But l H H1) (S1 : Src H1 l) : Same (New H1 H2) (New H H2) := fun b o e => by
  obtain ⟨h1, h2⟩ := new_some e
  rw [new_at (B.none h1 (S1.ne h1))]
  exact h2
section
variable {l : Addr} {σ : L2.St} {H : Hp} {K : PySem.W.Frag}
theorem mk_tupof {i : Nat} {p : Addr} {xs : List V} {ds : List D} {o : HO} (e : σ[i]? = some (some (.ref p))) (hp : H p = some (.lst xs)) (hd : DtAll (Off l H) xs ds) (hl : H l = some o) : Mk l σ (tCB (rTupOf K) (tCons (tVar i) tNil)) H (.tup ds) := fun H1 s Q q => by
  refine ⟨_, e, p, xs, rfl, .inl ⟨SqL.of (s _ _ hp), fun r hr => ?_⟩⟩
  have ne : r ≠ l := fun z => by
    subst z
    rw [s _ _ hl] at hr
    cases hr
  exact q (.ref r) _ (Same.upd hr) (.tup (by rw [off_ne ne]; exact upd_same) (hd.same (sOff (s.trans (Same.upd hr)))))
end
theorem dt_rep {H : Hp} {v : V} {d : D} (h : Dt H v d) : ∀ n : Nat, DtAll H (List.replicate n [v]).flatten (List.replicate n d)
  | 0 => .nil
  | n + 1 => by
    rw [List.replicate_succ, List.replicate_succ, List.flatten_cons]
    exact .cons h (dt_rep h n)
theorem ok_rep {d : D} (h : Ok d) : ∀ n : Nat, OkAll (List.replicate n d)
  | 0 => trivial
  | n + 1 => ⟨h, ok_rep h n⟩
theorem Src.lst {H : Hp} {l : Addr} (S : Src H l) : ∃ xs, H l = Option.some (.lst xs) := by
  obtain ⟨n, z, e, _⟩ := S
  exact ⟨_, e⟩
end Dear

namespace Dear
open PySem PySem.Spec PyProof.Rows L2
/-! ### == of data, and of a dict with a list -/
section
variable {A : Around} {s : Shared}
theorem dict_eq_declines_list (l b : Addr) (es : Array DictEntry) (ep : Nat) (items2 : Array Value) (n2 : Nat) (dd dd2 : Option Addr) (sl sl2 : Array (Option Value)) :
    Meets (Builtin.«dict.__eq__» ⟨[.ref l, .ref b], []⟩) (fun _ R s => s.heap.get? l = some { cls := .type "dict", dict := dd, data := .dict es ep, slots := sl } ∧ s.heap.get? b = some { cls := .type "list", dict := dd2, data := .seq items2 n2, slots := sl2 } ∧ R (.ok (.ret .notImplemented)) s) :=
  .of_wp fun prog w A R s h => by obtain ⟨hp, g, d, tk, os⟩ := s; obtain ⟨hl, hb, h⟩ := h; have f1 := F.sub_list_dict; wp_walk using wpAny_loadPart' hl, wpAny_loadPart' hb; exact ⟨_, rfl, h⟩
theorem list_eq_declines_dict (l b : Addr) (items : Array Value) (n : Nat) (es : Array DictEntry) (ep : Nat) (dd dd2 : Option Addr) (sl sl2 : Array (Option Value)) :
    Meets (Builtin.«list.__eq__» ⟨[.ref l, .ref b], []⟩) (fun _ R s => s.heap.get? l = some { cls := .type "list", dict := dd, data := .seq items n, slots := sl } ∧ s.heap.get? b = some { cls := .type "dict", dict := dd2, data := .dict es ep, slots := sl2 } ∧ R (.ok (.ret .notImplemented)) s) :=
  .of_wp fun prog w A R s h => by obtain ⟨hp, g, d, tk, os⟩ := s; obtain ⟨hl, hb, h⟩ := h; have f1 := F.sub_dict_list; wp_walk using wpAny_loadPart' hl, wpAny_loadPart' hb; exact ⟨_, rfl, h⟩
theorem rc_dict_list {l b : Addr} {es : Array DictEntry} {ep : Nat} {items2 : Array Value} {n2 : Nat} {dd dd2 : Option Addr} {sl sl2 : Array (Option Value)} (hne : l ≠ b) (ho : s.heap.get? l = some { cls := .type "dict", dict := dd, data := .dict es ep, slots := sl }) (ho2 : s.heap.get? b = some { cls := .type "list", dict := dd2, data := .seq items2 n2, slots := sl2 }) (hu : A.units < cLine) : SeqAt.RcAt A s (.ref l) (.ref b) false := fun prog w E Q h => by
  exact SeqAt.rc_eq_decline_or (k := false) ⟨_, ho, rfl⟩ ⟨_, ho2, rfl⟩ (by decide) F.sub_list_dict F.slot_dict_eq F.slot_list_eq_refl
    (fun _ hq => call_meets F.slot_dict_eq ⟨_, ho, rfl⟩ F.entry_dict_eq (F.args_dict_eq_2 _ _) (dict_eq_declines_list l b es ep items2 n2 dd dd2 sl sl2) ⟨ho, ho2, hq⟩)
    (fun _ hq => call_meets F.slot_list_eq_refl ⟨_, ho2, rfl⟩ F.entry_list_eq (F.args_list_eq_2 _ _) (list_eq_declines_dict b l items2 n2 es ep dd2 dd sl2 sl) ⟨ho2, ho, hq⟩)
    (fun _ hq => wpAny_isSame_ref_other hne ho ho2 (by simp) hq) (.inr hu) h
end
def rEqDX (K : PySem.W.Frag) : R2 := fun x y H Q => rEqD K x y H Q ∨ ∃ (a b : Addr) (kvs : List (Key × V)) (ys : List V), x = .ref a ∧ y = .ref b ∧ H a = some (.dK kvs) ∧ SqL K H b ys ∧ Q (.bl false) H
theorem op_eqDX_k {X : Cx} (K : PySem.W.Frag) (hu : X.A.units + 64 < cLine) (hk : X.K = K := by rfl) : OpR X (compareOp .Eq) (rEqDX K) := by
  subst hk
  intro pins s σ H x y v u Q I rx ry h
  rcases h with h | ⟨a, b, kvs, ys, rfl, rfl, ha, hb, q⟩
  · exact op_eqD hu pins s σ H x y v u Q I rx ry h
  · cases rx
    cases ry
    obtain ⟨_, _, vs, _, ⟨o, es, ep, ho, hex, hdt, _⟩⟩ := I.hok _ _ ha
    obtain ⟨cls, dd, data, sl⟩ := o
    simp only at hdt
    subst hdt
    obtain ⟨hc, hdd⟩ := hex
    simp only at hc
    subst hc
    obtain ⟨its, r, pl, hz⟩ := I.list hb
    obtain ⟨⟨cls2, dd2, data2, sl2⟩, ho2, hc2, n2, hd2⟩ := pl.isList
    simp only at hc2 hd2
    subst hc2 hd2
    have ne : a ≠ b := fun e => by
      subst e
      rw [ho] at ho2
      exact absurd (congrArg (fun o => o.map Obj.cls) ho2) (by simp)
    exact rc_dict_list ne ho ho2 (by omega) X.prog X.w _ _ ⟨.bl false, H, I, rfl, q⟩
end Dear

namespace Dear
open PySem PySem.Spec PyProof.Rows L2
/-! ### what an expression makes: a value that bears d, nothing that was there is changed -/
def MkE (σ : L2.St) (t : TE) (H : Hp) (d : D) : Prop := ∀ H1, Same H H1 → ∀ Q : VK, (∀ v H2, Same H1 H2 → Dt H2 v d → Q v H2) → t σ H1 Q
def MkEA (σ : L2.St) (t : TA) (H : Hp) (ds : List D) : Prop := ∀ H1, Same H H1 → ∀ Q : List V → Hp → Prop, (∀ vs H2, Same H1 H2 → DtAll H2 vs ds → Q vs H2) → t σ H1 Q
theorem cutV_init (l : List V) : cutV l none (some (-1)) = l.take (l.length - 1) := by
  unfold cutV
  rw [HT.sIx_none, List.drop_zero, Nat.sub_zero]
  congr 1
  show (if (-1 : Int) < 0 then (-1 + (l.length : Int)).toNat else min (-1 : Int).toNat l.length) = l.length - 1
  rw [if_pos (by decide)]
  omega
theorem DtAll.rep {H : Hp} {xs : List V} {ds : List D} (h : DtAll H xs ds) : ∀ n : Nat, DtAll H (List.replicate n xs).flatten (List.replicate n ds).flatten
  | 0 => .nil
  | n + 1 => by
    rw [List.replicate_succ, List.replicate_succ, List.flatten_cons, List.flatten_cons]
    exact h.app (DtAll.rep h n)
theorem DtAll.atN {H : Hp} : ∀ {vs : List V} {ds : List D} {i : Nat} {d : D}, DtAll H vs ds → ds[i]? = some d → ∃ v, vs[i]? = some v ∧ Dt H v d
  | _, _, _, _, .nil, e => by simp at e
  | _, _, 0, _, .cons a _, e => by
    simp at e
    subst e
    exact ⟨_, rfl, a⟩
  | _, _, i + 1, d, .cons _ b, e => by
    obtain ⟨v, h1, h2⟩ := DtAll.atN (i := i) (d := d) b (by simpa using e)
    exact ⟨v, by simpa using h1, h2⟩
theorem Dt.lstAt {H : Hp} {v : V} {ds : List D} (h : Dt H v (.lst ds)) : ∃ (a : Addr) (xs : List V), v = .ref a ∧ H a = some (.lst xs) ∧ DtAll H xs ds := by
  cases h with
  | lst ha hall => exact ⟨_, _, rfl, ha, hall⟩
theorem Dt.tupAt {H : Hp} {v : V} {ds : List D} (h : Dt H v (.tup ds)) : ∃ (a : Addr) (xs : List V), v = .ref a ∧ H a = some (.tup xs) ∧ DtAll H xs ds := by
  cases h with
  | tup ha hall => exact ⟨_, _, rfl, ha, hall⟩
theorem Dt.intAt {H : Hp} {v : V} {i : Int} (h : Dt H v (.int i)) : v = .int i := by
  cases h
  rfl
theorem Dt.strAt {H : Hp} {v : V} {z : Str} (h : Dt H v (.str z)) : v = .str z := by
  cases h
  rfl
section
variable {σ : L2.St} {H : Hp} {K : PySem.W.Frag}
theorem mke_c {v : V} {d : D} (h : ∀ H', Dt H' v d) : MkE σ (tC v) H d := fun H1 _ _ q => q v H1 (Same.refl _) (h _)
theorem mke_var {i : Nat} {v : V} {d : D} (e : σ[i]? = some (some v)) (h : Dt H v d) : MkE σ (tVar i) H d := fun H1 s _ q => ⟨v, e, q v H1 (Same.refl _) (h.same s)⟩
theorem mkea_nil : MkEA σ tNil H [] := fun H1 _ _ q => q [] H1 (Same.refl _) .nil
theorem mkea_cons {t : TE} {u : TA} {d : D} {ds : List D} (h1 : MkE σ t H d) (h2 : MkEA σ u H ds) : MkEA σ (tCons t u) H (d :: ds) := fun H1 s Q q => by
  refine h1 H1 s _ fun v H2 s2 d2 => ?_
  refine h2 H2 (s.trans s2) _ fun vs H3 s3 d3 => ?_
  exact q (v :: vs) H3 (s2.trans s3) (.cons (d2.same s3) d3)
theorem mke_tup {u : TA} {ds : List D} (h : MkEA σ u H ds) (hz : Nat.ble ds.length 1000 = true := by rfl) : MkE σ (tTup u) H (.tup ds) := fun H1 s Q q => by
  refine h H1 s _ fun vs H2 s2 d2 => ?_
  refine ⟨sz_lit (by rw [d2.length]; exact Nat.le_of_ble_eq_true hz), fun p hp => ?_⟩
  exact q (.ref p) _ (s2.trans (Same.upd hp)) (.tup upd_same (d2.same (Same.upd hp)))
theorem mke_lst {u : TA} {ds : List D} (h : MkEA σ u H ds) (hz : Nat.ble ds.length 1000 = true := by rfl) : MkE σ (tLst u) H (.lst ds) := fun H1 s Q q => by
  refine h H1 s _ fun vs H2 s2 d2 => ?_
  refine ⟨sz_lit (by rw [d2.length]; exact Nat.le_of_ble_eq_true hz), fun p hp => ?_⟩
  exact q (.ref p) _ (s2.trans (Same.upd hp)) (.lst upd_same (d2.same (Same.upd hp)))
theorem mke_dnew : MkE σ tDNewK H .dct := fun H1 s Q q p hp => q (.ref p) _ (Same.upd hp) (.dct upd_same)
theorem mke_neg {i : Int} : MkE σ (tUn (rU fun i => .int (-i)) (tC (.int i))) H (.int (-i)) := fun H1 _ _ q => ⟨i, rfl, q _ H1 (Same.refl _) (.int _)⟩
theorem mke_cat {t u : TE} {ds es : List D} (h1 : MkE σ t H (.lst ds)) (h2 : MkE σ u H (.lst es)) (hz : ds.length + es.length ≤ 1000) : MkE σ (tOp rCat t u) H (.lst (ds ++ es)) := fun H1 s Q q => by
  refine h1 H1 s _ fun v H2 s2 d2 => ?_
  refine h2 H2 (s.trans s2) _ fun v3 H3 s3 d3 => ?_
  obtain ⟨a, xs, rfl, ha, hall⟩ := d2.lstAt
  obtain ⟨b, ys, rfl, hb, hbll⟩ := d3.lstAt
  refine ⟨a, b, xs, ys, rfl, rfl, s3 _ _ ha, hb, sz_lit (by rw [hall.length, hbll.length]; exact hz), fun p hp => ?_⟩
  exact q (.ref p) _ ((s2.trans s3).trans (Same.upd hp)) (.lst upd_same (((hall.same s3).app hbll).same (Same.upd hp)))
theorem mke_rep {t u : TE} {ds : List D} {n : Nat} (h1 : MkE σ t H (.lst ds)) (h2 : MkE σ u H (.int (n : Nat))) (hn : n ≤ 1000) (hz : ds.length * n ≤ 1000) : MkE σ (tOp rRep t u) H (.lst (List.replicate n ds).flatten) := fun H1 s Q q => by
  refine h1 H1 s _ fun v H2 s2 d2 => ?_
  refine h2 H2 (s.trans s2) _ fun v3 H3 s3 d3 => ?_
  obtain ⟨a, xs, rfl, ha, hall⟩ := d2.lstAt
  have := d3.intAt
  subst this
  refine ⟨a, (n : Nat), xs, rfl, rfl, s3 _ _ ha, by omega, by omega, sz_lit (by rw [hall.length]; exact hz), fun p hp => ?_⟩
  exact q (.ref p) _ ((s2.trans s3).trans (Same.upd hp)) (.lst upd_same (((hall.same s3).rep n).same (Same.upd hp)))
theorem mke_len {t : TE} {ds : List D} (h : MkE σ t H (.lst ds)) : MkE σ (tCB (rLen K) (tCons t tNil)) H (.int (ds.length : Nat)) := fun H1 s Q q => by
  refine h H1 s _ fun v H2 s2 d2 => ?_
  obtain ⟨a, xs, rfl, ha, hall⟩ := d2.lstAt
  refine ⟨a, xs, rfl, .inl (SqL.of ha), ?_⟩
  rw [hall.length]
  exact q _ H2 s2 (.int _)
theorem mke_tupof {t : TE} {ds : List D} (h : MkE σ t H (.lst ds)) : MkE σ (tCB (rTupOf K) (tCons t tNil)) H (.tup ds) := fun H1 s Q q => by
  refine h H1 s _ fun v H2 s2 d2 => ?_
  obtain ⟨a, xs, rfl, ha, hall⟩ := d2.lstAt
  exact ⟨a, xs, rfl, .inl ⟨SqL.of ha, fun r hr => q (.ref r) _ (s2.trans (Same.upd hr)) (.tup upd_same (hall.same (Same.upd hr)))⟩⟩
theorem mke_lstof {t : TE} {ds : List D} (h : MkE σ t H (.lst ds)) : MkE σ (tCB (rListOf K) (tCons t tNil)) H (.lst ds) := fun H1 s Q q => by
  refine h H1 s _ fun v H2 s2 d2 => ?_
  obtain ⟨a, xs, rfl, ha, hall⟩ := d2.lstAt
  exact ⟨a, xs, rfl, .inl (SqL.of ha), fun r hr => q (.ref r) _ (s2.trans (Same.upd hr)) (.lst upd_same (hall.same (Same.upd hr)))⟩
theorem mke_from {t : TE} {ds : List D} {i : Int} {n : Nat} (h : MkE σ t H (.lst ds)) (hi : i = (n : Nat) := by rfl) : MkE σ (tSl (rSlL K) t (tPart (tC (.int i))) tNoPart) H (.lst (ds.drop n)) := fun H1 s Q q => by
  subst hi
  refine h H1 s _ fun v H2 s2 d2 => ?_
  obtain ⟨a, xs, rfl, ha, hall⟩ := d2.lstAt
  refine ⟨_, rfl, a, xs, rfl, SqL.of ha, fun p hp => ?_⟩
  rw [cutV_from]
  exact q (.ref p) _ (s2.trans (Same.upd hp)) (.lst upd_same ((hall.drop n).same (Same.upd hp)))
theorem mke_upto {t : TE} {ds : List D} {i : Int} {n : Nat} (h : MkE σ t H (.lst ds)) (hi : i = (n : Nat) := by rfl) : MkE σ (tSl (rSlL K) t tNoPart (tPart (tC (.int i)))) H (.lst (ds.take n)) := fun H1 s Q q => by
  subst hi
  refine h H1 s _ fun v H2 s2 d2 => ?_
  obtain ⟨a, xs, rfl, ha, hall⟩ := d2.lstAt
  refine ⟨_, rfl, a, xs, rfl, SqL.of ha, fun p hp => ?_⟩
  rw [cutV_pre]
  exact q (.ref p) _ (s2.trans (Same.upd hp)) (.lst upd_same ((hall.take n).same (Same.upd hp)))
theorem mke_init {t : TE} {ds : List D} (h : MkE σ t H (.lst ds)) : MkE σ (tSl (rSlL K) t tNoPart (tPart (tUn (rU fun i => .int (-i)) (tC (.int 1))))) H (.lst (ds.take (ds.length - 1))) := fun H1 s Q q => by
  refine h H1 s _ fun v H2 s2 d2 => ?_
  obtain ⟨a, xs, rfl, ha, hall⟩ := d2.lstAt
  refine ⟨_, rfl, _, rfl, a, xs, rfl, SqL.of ha, fun p hp => ?_⟩
  rw [show (-(1 : Int)) = -1 from rfl, cutV_init, hall.length]
  exact q (.ref p) _ (s2.trans (Same.upd hp)) (.lst upd_same ((hall.take _).same (Same.upd hp)))
theorem mke_ix {t u : TE} {ds : List D} {n : Nat} {d : D} (h : MkE σ t H (.lst ds)) (h2 : MkE σ u H (.int (n : Nat))) (hd : ds[n]? = some d) : MkE σ (tOp (rIxL K) t u) H d := fun H1 s Q q => by
  refine h H1 s _ fun v H2 s2 d2 => ?_
  refine h2 H2 (s.trans s2) _ fun v3 H3 s3 d3 => ?_
  obtain ⟨a, xs, rfl, ha, hall⟩ := d2.lstAt
  have := d3.intAt
  subst this
  obtain ⟨v, hv, dv⟩ := hall.atN hd
  exact ⟨a, xs, _, v, rfl, rfl, SqL.of (s3 _ _ ha), atI_nat hv, q v H3 (s2.trans s3) (dv.same s3)⟩
theorem at_end {α : Type} {xs : List α} {v : α} (h : xs[xs.length - 1]? = some v) : atI xs (-1) = some v := by
  have hl : 0 < xs.length := by
    cases xs with
    | nil => simp at h
    | cons _ _ => simp
  unfold atI ixN
  rw [if_neg (by decide), if_pos (by omega)]
  show xs[(-1 + (xs.length : Int)).toNat]? = some v
  rw [show (-1 + (xs.length : Int)).toNat = xs.length - 1 by omega]
  exact h
theorem mke_last {t : TE} {ds : List D} {d : D} (h : MkE σ t H (.lst ds)) (hd : ds[ds.length - 1]? = some d) : MkE σ (tOp (rIxL K) t (tUn (rU fun i => .int (-i)) (tC (.int 1)))) H d := fun H1 s Q q => by
  refine h H1 s _ fun v H2 s2 d2 => ?_
  obtain ⟨a, xs, rfl, ha, hall⟩ := d2.lstAt
  obtain ⟨v, hv, dv⟩ := hall.atN hd
  exact ⟨_, rfl, a, xs, _, v, rfl, rfl, SqL.of ha, at_end (by rw [hall.length]; exact hv), q v H2 s2 dv⟩
theorem mke_add {t u : TE} {i j : Int} (h1 : MkE σ t H (.int i)) (h2 : MkE σ u H (.int j)) : MkE σ (tOp (rI0 fun i j => .int (i + j)) t u) H (.int (i + j)) := fun H1 s Q q => by
  refine h1 H1 s _ fun v H2 s2 d2 => ?_
  refine h2 H2 (s.trans s2) _ fun v3 H3 s3 d3 => ?_
  have := d2.intAt
  subst this
  have := d3.intAt
  subst this
  exact ⟨_, _, rfl, rfl, q _ H3 (s2.trans s3) (.int _)⟩
theorem mke_sub {t u : TE} {i j : Int} (h1 : MkE σ t H (.int i)) (h2 : MkE σ u H (.int j)) : MkE σ (tOp (rI0 fun i j => .int (i - j)) t u) H (.int (i - j)) := fun H1 s Q q => by
  refine h1 H1 s _ fun v H2 s2 d2 => ?_
  refine h2 H2 (s.trans s2) _ fun v3 H3 s3 d3 => ?_
  have := d2.intAt
  subst this
  have := d3.intAt
  subst this
  exact ⟨_, _, rfl, rfl, q _ H3 (s2.trans s3) (.int _)⟩
theorem mke_mul {t u : TE} {i j : Int} (h1 : MkE σ t H (.int i)) (h2 : MkE σ u H (.int j)) (h : CMul i j) : MkE σ (tOp (rI CMul fun i j => .int (i * j)) t u) H (.int (i * j)) := fun H1 s Q q => by
  refine h1 H1 s _ fun v H2 s2 d2 => ?_
  refine h2 H2 (s.trans s2) _ fun v3 H3 s3 d3 => ?_
  have := d2.intAt
  subst this
  have := d3.intAt
  subst this
  exact ⟨_, _, rfl, rfl, h, q _ H3 (s2.trans s3) (.int _)⟩
theorem mke_mod {t u : TE} {i j : Int} (h1 : MkE σ t H (.int i)) (h2 : MkE σ u H (.int j)) (h : 0 < j) : MkE σ (tOp (rI (fun _ j => 0 < j) fun i j => .int (i % j)) t u) H (.int (i % j)) := fun H1 s Q q => by
  refine h1 H1 s _ fun v H2 s2 d2 => ?_
  refine h2 H2 (s.trans s2) _ fun v3 H3 s3 d3 => ?_
  have := d2.intAt
  subst this
  have := d3.intAt
  subst this
  exact ⟨_, _, rfl, rfl, h, q _ H3 (s2.trans s3) (.int _)⟩
theorem mke_min2 {t u : TE} {i j : Int} (h1 : MkE σ t H (.int i)) (h2 : MkE σ u H (.int j)) : MkE σ (tCB (fun xs H Q => ∃ i j, xs = [.int i, .int j] ∧ Q (.int (if j < i then j else i)) H) (tCons t (tCons u tNil))) H (.int (if j < i then j else i)) := fun H1 s Q q => by
  refine h1 H1 s _ fun v H2 s2 d2 => ?_
  refine h2 H2 (s.trans s2) _ fun v3 H3 s3 d3 => ?_
  have := d2.intAt
  subst this
  have := d3.intAt
  subst this
  exact ⟨_, _, rfl, q _ H3 (s2.trans s3) (.int _)⟩
theorem mke_pow {i j : Int} (h : CPow i j) : MkE σ (tOp (rI CPow fun i j => .int (i ^ j.toNat)) (tC (.int i)) (tC (.int j))) H (.int (i ^ j.toNat)) := fun H1 _ _ q => ⟨_, _, rfl, rfl, h, q _ H1 (Same.refl _) (.int _)⟩
theorem mke_eq {t : TE} {d e : D} (h : MkE σ t H d) (he : d = e) : MkE σ t H e := he ▸ h
theorem MkE.go {t : TE} {d : D} (h : MkE σ t H d) {Q : VK} (q : ∀ v H2, Same H H2 → Dt H2 v d → Q v H2) : t σ H Q := h H (Same.refl H) Q q
theorem MkEA.go {t : TA} {ds : List D} (h : MkEA σ t H ds) {Q : List V → Hp → Prop} (q : ∀ vs H2, Same H H2 → DtAll H2 vs ds → Q vs H2) : t σ H Q := h H (Same.refl H) Q q
theorem s_op2 {r : R2} {ta tb : TE} {Q : VK} (h : ta σ H fun x H1 => tb σ H1 fun y H2 => r x y H2 Q) : tOp r ta tb σ H Q := h
end
end Dear

namespace Dear
open PySem PySem.Spec PyProof.Rows L2
/-! ### a builtin's method, K named (for comprehensions) -/
theorem pe_bm_k {X : Cx} (K : PySem.W.Frag) {o e : Expr} {es : List Expr} {to : TE} {t : TA} {name : Str} {apos cpos : Pos} {T id : String} {r : V → List V → Hp → VK → Prop} (pa : PlainAttrs T) (slot : Slot T name id) (hty : typeOf (.builtin id) = pure (.type "method_descriptor")) (hm : MtR X id r) (ho : PE X o to) (ha : PA X (e :: es) t) (h : X.K = K := by rfl)
    (hbase : attributeBase o name X.env (eval o X.env) = eval o X.env := by rfl)
    (hfew : ((backTo cpos (starEach (e :: es) X.env)).all (fun x => !x.1) && (backToKw cpos (keywordEach [] X.env)).all (fun x => x.1.isSome)
      && decide ((e :: es).length + ([] : List Keyword).length + (if ([] : List Keyword).isEmpty then 0 else 1) < 30)) = true := by rfl)
    (hline : (apos.endLine == cpos.line) = true := by rfl) (hs : starEach (e :: es) X.env = (false, eval e X.env) :: starEach es X.env := by rfl) (hplain : (backTo cpos (starEach es X.env)).any (·.1) = false := by rfl) :
    PE X (.Call (.Attribute o name apos) (e :: es) [] cpos) (tBM K T r to t) := h ▸ pe_bm pa slot hty hm ho ha hbase hfew hline hs hplain
end Dear

namespace Dear
open PySem PySem.Spec PyProof.Rows L2
def top (i : Nat) : Stmt := PySem.Challenge.pw_dearsigns_k58_orders_of_things.main.body.getD i (.Pass ⟨0, 0, 0, 0⟩)
abbrev s_NoTongue___init__ : Stmt := inClass (top 11) 0
abbrev s_NoWants___init__ : Stmt := inClass (top 12) 0
abbrev s_NoThing___init__ : Stmt := inClass (top 13) 0
abbrev s_BadSign___init__ : Stmt := inClass (top 14) 0
abbrev s_NoText___init__ : Stmt := inClass (top 15) 0
abbrev s_is_whole : Stmt := top 19
abbrev s_is_name : Stmt := top 20
abbrev s_is_want : Stmt := top 24
abbrev s_look_at_wants : Stmt := top 25
abbrev s_look_at_order : Stmt := top 27
abbrev s_put_so : Stmt := top 28
abbrev s_put_wants : Stmt := top 29
abbrev s_put_book : Stmt := top 30
abbrev s__law_cell : Stmt := top 32
abbrev s__law_draws : Stmt := top 33
abbrev s__law_wants : Stmt := top 35
abbrev s__law_is_no_turn : Stmt := top 36
abbrev s__law_order : Stmt := top 37
abbrev s__law_no_order : Stmt := top 38
abbrev s__law_refused : Stmt := top 39
abbrev s__law_no_wants : Stmt := top 40
abbrev s__law_number : Stmt := top 41
abbrev s_law : Stmt := top 42
abbrev n_NoTongue___init__ : List Str := ["self", "part"]
theorem c_NoTongue___init__ : FnScope n_NoTongue___init__ ["self", "part"] (defScope s_NoTongue___init__) := ⟨rfl, rfl, rfl, by decide +kernel, rfl, by decide +kernel, by decide +kernel⟩
abbrev n_NoWants___init__ : List Str := ["self", "number"]
theorem c_NoWants___init__ : FnScope n_NoWants___init__ ["self", "number"] (defScope s_NoWants___init__) := ⟨rfl, rfl, rfl, by decide +kernel, rfl, by decide +kernel, by decide +kernel⟩
abbrev n_NoThing___init__ : List Str := ["self", "place"]
theorem c_NoThing___init__ : FnScope n_NoThing___init__ ["self", "place"] (defScope s_NoThing___init__) := ⟨rfl, rfl, rfl, by decide +kernel, rfl, by decide +kernel, by decide +kernel⟩
abbrev n_BadSign___init__ : List Str := ["self", "place"]
theorem c_BadSign___init__ : FnScope n_BadSign___init__ ["self", "place"] (defScope s_BadSign___init__) := ⟨rfl, rfl, rfl, by decide +kernel, rfl, by decide +kernel, by decide +kernel⟩
abbrev n_NoText___init__ : List Str := ["self", "row"]
theorem c_NoText___init__ : FnScope n_NoText___init__ ["self", "row"] (defScope s_NoText___init__) := ⟨rfl, rfl, rfl, by decide +kernel, rfl, by decide +kernel, by decide +kernel⟩
abbrev n_is_whole : List Str := ["thing"]
theorem c_is_whole : FnScope n_is_whole ["thing"] (defScope s_is_whole) := ⟨rfl, rfl, rfl, by decide +kernel, rfl, by decide +kernel, by decide +kernel⟩
abbrev n_is_name : List Str := ["thing", "sign"]
theorem c_is_name : FnScope n_is_name ["thing"] (defScope s_is_name) := ⟨rfl, rfl, rfl, by decide +kernel, rfl, by decide +kernel, by decide +kernel⟩
abbrev n_is_want : List Str := ["thing"]
theorem c_is_want : FnScope n_is_want ["thing"] (defScope s_is_want) := ⟨rfl, rfl, rfl, by decide +kernel, rfl, by decide +kernel, by decide +kernel⟩
abbrev n_look_at_wants : List Str := ["thing", "names", "number", "want"]
theorem c_look_at_wants : FnScope n_look_at_wants ["thing"] (defScope s_look_at_wants) := ⟨rfl, rfl, rfl, by decide +kernel, rfl, by decide +kernel, by decide +kernel⟩
abbrev n_look_at_order : List Str := ["many", "order", "one"]
theorem c_look_at_order : FnScope n_look_at_order ["many", "order"] (defScope s_look_at_order) := ⟨rfl, rfl, rfl, by decide +kernel, rfl, by decide +kernel, by decide +kernel⟩
abbrev n_put_so : List Str := ["some", "order", "found", "k", "place"]
theorem c_put_so : FnScope n_put_so ["some", "order"] (defScope s_put_so) := ⟨rfl, rfl, rfl, by decide +kernel, rfl, by decide +kernel, by decide +kernel⟩
abbrev n_put_wants : List Str := ["wants", "order"]
theorem c_put_wants : FnScope n_put_wants ["wants", "order"] (defScope s_put_wants) := ⟨rfl, rfl, rfl, by decide +kernel, rfl, by decide +kernel, by decide +kernel⟩
abbrev n_put_book : List Str := ["book", "order"]
theorem c_put_book : FnScope n_put_book ["book", "order"] (defScope s_put_book) := ⟨rfl, rfl, rfl, by decide +kernel, rfl, by decide +kernel, by decide +kernel⟩
abbrev n__law_cell : List Str := ["_law_script", "_law_k"]
theorem c__law_cell : FnScope n__law_cell ["_law_script", "_law_k"] (defScope s__law_cell) := ⟨rfl, rfl, rfl, by decide +kernel, rfl, by decide +kernel, by decide +kernel⟩
abbrev n__law_draws : List Str := ["_law_cell_here", "_law_k", "_law_sizes", "_law_number_here", "_law_great", "_law_mixed", "_law_found", "_law_turn", "_law_size"]
theorem c__law_draws : FnScope n__law_draws ["_law_cell_here", "_law_k", "_law_sizes"] (defScope s__law_draws) := ⟨rfl, rfl, rfl, by decide +kernel, rfl, by decide +kernel, by decide +kernel⟩
abbrev n__law_wants : List Str := ["_law_script", "_law_at", "_law_many", "_law_row", "_law_letters", "_law_wants_here", "_law_k", "_law_count", "_law_name"]
theorem c__law_wants : FnScope n__law_wants ["_law_script", "_law_at", "_law_many"] (defScope s__law_wants) := ⟨rfl, rfl, rfl, by decide +kernel, rfl, by decide +kernel, by decide +kernel⟩
abbrev n__law_is_no_turn : List Str := ["_law_kept", "_law_others"]
theorem c__law_is_no_turn : FnScope n__law_is_no_turn ["_law_kept"] (defScope s__law_is_no_turn) := ⟨rfl, rfl, rfl, by decide +kernel, rfl, by decide +kernel, by decide +kernel⟩
abbrev n__law_order : List Str := ["_law_cell_here", "_law_k", "_law_many", "_law_left", "_law_found", "_law_place", "_law_j"]
theorem c__law_order : FnScope n__law_order ["_law_cell_here", "_law_k", "_law_many"] (defScope s__law_order) := ⟨rfl, rfl, rfl, by decide +kernel, rfl, by decide +kernel, by decide +kernel⟩
abbrev n__law_no_order : List Str := ["_law_order_here", "_law_cell_here", "_law_k", "_law_some", "_law_thing", "_law_one", "_law_place"]
theorem c__law_no_order : FnScope n__law_no_order ["_law_order_here", "_law_cell_here", "_law_k"] (defScope s__law_no_order) := ⟨rfl, rfl, rfl, by decide +kernel, rfl, by decide +kernel, by decide +kernel⟩
abbrev n__law_refused : List Str := ["_law_things", "_law_thing", "_law_way", "_law_kept", "e"]
theorem c__law_refused : FnScope n__law_refused ["_law_things", "_law_thing", "_law_way"] (defScope s__law_refused) := ⟨rfl, rfl, rfl, by decide +kernel, rfl, by decide +kernel, by decide +kernel⟩
abbrev n__law_no_wants : List Str := ["_law_wants_here", "_law_name", "_law_count", "_law_some"]
theorem c__law_no_wants : FnScope n__law_no_wants ["_law_wants_here"] (defScope s__law_no_wants) := ⟨rfl, rfl, rfl, by decide +kernel, rfl, by decide +kernel, by decide +kernel⟩
abbrev n__law_number : List Str := ["_law_thing", "_law_order_here", "_law_kept", "e"]
theorem c__law_number : FnScope n__law_number ["_law_thing", "_law_order_here"] (defScope s__law_number) := ⟨rfl, rfl, rfl, by decide +kernel, rfl, by decide +kernel, by decide +kernel⟩
abbrev n_law : List Str := ["_law_script", "_law_wants_here", "_law_texts", "_law_kept", "_law_k", "_law_cell_here", "_law_order_here", "_law_told", "_law_book", "_law_other", "_law_odd", "_law_thing", "_law_number_here", "_law_place"]
theorem c_law : FnScope n_law ["_law_script"] (defScope s_law) := ⟨rfl, rfl, rfl, by decide +kernel, rfl, by decide +kernel, by decide +kernel⟩
structure Ads where
  DearError : Addr
  NoNumber : Addr
  NoBook : Addr
  NoTree : Addr
  TooMany : Addr
  NoCount : Addr
  NoUndo : Addr
  NoTurn : Addr
  NoRow : Addr
  Unknown : Addr
  NoTongue : Addr
  NoWants : Addr
  NoThing : Addr
  BadSign : Addr
  NoText : Addr
/-- what the top has left -/
structure Txt (K : PySem.W.Frag) (mg : Str → Option Value) where
  A : Ads
  C_DearError : mg "DearError" = some (.ref A.DearError)
  C_NoNumber : mg "NoNumber" = some (.ref A.NoNumber)
  C_NoBook : mg "NoBook" = some (.ref A.NoBook)
  C_NoTree : mg "NoTree" = some (.ref A.NoTree)
  C_TooMany : mg "TooMany" = some (.ref A.TooMany)
  C_NoCount : mg "NoCount" = some (.ref A.NoCount)
  C_NoUndo : mg "NoUndo" = some (.ref A.NoUndo)
  C_NoTurn : mg "NoTurn" = some (.ref A.NoTurn)
  C_NoRow : mg "NoRow" = some (.ref A.NoRow)
  C_Unknown : mg "Unknown" = some (.ref A.Unknown)
  C_NoTongue : mg "NoTongue" = some (.ref A.NoTongue)
  C_NoWants : mg "NoWants" = some (.ref A.NoWants)
  C_NoThing : mg "NoThing" = some (.ref A.NoThing)
  C_BadSign : mg "BadSign" = some (.ref A.BadSign)
  C_NoText : mg "NoText" = some (.ref A.NoText)
  X_NoTurn : ExOwn K mg "NoTurn" A.NoTurn
  D_DearError : DrI K mg "DearError" A.DearError
  X_NoWants : ExInit K mg "NoWants" "number" A.NoWants
  F_NoWants : DfI K A.NoWants "NoWants.__init__" s_NoWants___init__ "number"
  q_NoWants_DearError : PySem.W.kitOne K (.ref A.NoWants) (.ref A.DearError) = some true
  q_NoWants_NoNumber : PySem.W.kitOne K (.ref A.NoWants) (.ref A.NoNumber) = some false
  q_NoWants_NoBook : PySem.W.kitOne K (.ref A.NoWants) (.ref A.NoBook) = some false
  q_NoWants_NoTree : PySem.W.kitOne K (.ref A.NoWants) (.ref A.NoTree) = some false
  q_NoWants_TooMany : PySem.W.kitOne K (.ref A.NoWants) (.ref A.TooMany) = some false
  q_NoWants_NoCount : PySem.W.kitOne K (.ref A.NoWants) (.ref A.NoCount) = some false
  q_NoWants_NoUndo : PySem.W.kitOne K (.ref A.NoWants) (.ref A.NoUndo) = some false
  q_NoWants_NoTurn : PySem.W.kitOne K (.ref A.NoWants) (.ref A.NoTurn) = some false
  q_NoWants_NoRow : PySem.W.kitOne K (.ref A.NoWants) (.ref A.NoRow) = some false
  q_NoWants_Unknown : PySem.W.kitOne K (.ref A.NoWants) (.ref A.Unknown) = some false
  q_NoWants_NoTongue : PySem.W.kitOne K (.ref A.NoWants) (.ref A.NoTongue) = some false
  q_NoWants_NoWants : PySem.W.kitOne K (.ref A.NoWants) (.ref A.NoWants) = some true
  q_NoWants_NoThing : PySem.W.kitOne K (.ref A.NoWants) (.ref A.NoThing) = some false
  q_NoWants_BadSign : PySem.W.kitOne K (.ref A.NoWants) (.ref A.BadSign) = some false
  q_NoWants_NoText : PySem.W.kitOne K (.ref A.NoWants) (.ref A.NoText) = some false
  q_NoWants_ValueError : PySem.W.kitOne K (.ref A.NoWants) (.type "ValueError") = some true
  m_NoWants : PySem.W.exmOne K (.ref A.NoWants) (.ref A.DearError) = some true
  q_NoTurn_DearError : PySem.W.kitOne K (.ref A.NoTurn) (.ref A.DearError) = some true
  q_NoTurn_NoNumber : PySem.W.kitOne K (.ref A.NoTurn) (.ref A.NoNumber) = some false
  q_NoTurn_NoBook : PySem.W.kitOne K (.ref A.NoTurn) (.ref A.NoBook) = some false
  q_NoTurn_NoTree : PySem.W.kitOne K (.ref A.NoTurn) (.ref A.NoTree) = some false
  q_NoTurn_TooMany : PySem.W.kitOne K (.ref A.NoTurn) (.ref A.TooMany) = some false
  q_NoTurn_NoCount : PySem.W.kitOne K (.ref A.NoTurn) (.ref A.NoCount) = some false
  q_NoTurn_NoUndo : PySem.W.kitOne K (.ref A.NoTurn) (.ref A.NoUndo) = some false
  q_NoTurn_NoTurn : PySem.W.kitOne K (.ref A.NoTurn) (.ref A.NoTurn) = some true
  q_NoTurn_NoRow : PySem.W.kitOne K (.ref A.NoTurn) (.ref A.NoRow) = some false
  q_NoTurn_Unknown : PySem.W.kitOne K (.ref A.NoTurn) (.ref A.Unknown) = some false
  q_NoTurn_NoTongue : PySem.W.kitOne K (.ref A.NoTurn) (.ref A.NoTongue) = some false
  q_NoTurn_NoWants : PySem.W.kitOne K (.ref A.NoTurn) (.ref A.NoWants) = some false
  q_NoTurn_NoThing : PySem.W.kitOne K (.ref A.NoTurn) (.ref A.NoThing) = some false
  q_NoTurn_BadSign : PySem.W.kitOne K (.ref A.NoTurn) (.ref A.BadSign) = some false
  q_NoTurn_NoText : PySem.W.kitOne K (.ref A.NoTurn) (.ref A.NoText) = some false
  q_NoTurn_ValueError : PySem.W.kitOne K (.ref A.NoTurn) (.type "ValueError") = some true
  m_NoTurn : PySem.W.exmOne K (.ref A.NoTurn) (.ref A.DearError) = some true
  e_NoWants : PySem.W.exmOne K (.ref A.NoWants) (.ref A.NoWants) = some true
  f_is_whole : Df K mg "is_whole" s_is_whole ["thing"]
  f_is_name : Df K mg "is_name" s_is_name ["thing"]
  f_is_want : Df K mg "is_want" s_is_want ["thing"]
  f_look_at_wants : Df K mg "look_at_wants" s_look_at_wants ["thing"]
  f_look_at_order : Df K mg "look_at_order" s_look_at_order ["many", "order"]
  f_put_so : Df K mg "put_so" s_put_so ["some", "order"]
  f_put_wants : Df K mg "put_wants" s_put_wants ["wants", "order"]
  f_put_book : Df K mg "put_book" s_put_book ["book", "order"]
  f__law_cell : Df K mg "_law_cell" s__law_cell ["_law_script", "_law_k"]
  f__law_draws : Df K mg "_law_draws" s__law_draws ["_law_cell_here", "_law_k", "_law_sizes"]
  f__law_wants : Df K mg "_law_wants" s__law_wants ["_law_script", "_law_at", "_law_many"]
  f__law_is_no_turn : Df K mg "_law_is_no_turn" s__law_is_no_turn ["_law_kept"]
  f__law_order : Df K mg "_law_order" s__law_order ["_law_cell_here", "_law_k", "_law_many"]
  f__law_no_order : Df K mg "_law_no_order" s__law_no_order ["_law_order_here", "_law_cell_here", "_law_k"]
  f__law_refused : Df K mg "_law_refused" s__law_refused ["_law_things", "_law_thing", "_law_way"]
  f__law_no_wants : Df K mg "_law_no_wants" s__law_no_wants ["_law_wants_here"]
  f__law_number : Df K mg "_law_number" s__law_number ["_law_thing", "_law_order_here"]
  f_law : Df K mg "law" s_law ["_law_script"]
  g_LETTERS : ∃ t, mg "LETTERS" = some (.str "abcdefghijklmnopqrstuvwxyz" t)
  g_LONGEST : ∃ t, mg "LONGEST" = some (.int 8 t)
  g_MOST_THINGS : ∃ t, mg "MOST_THINGS" = some (.int 20 t)
  g_GREATEST_COUNT : ∃ t, mg "GREATEST_COUNT" = some (.int 1000000000 t)
  b_ValueError : mg "ValueError" = none
  b_abs : mg "abs" = none
  b_all : mg "all" = none
  b_bool : mg "bool" = none
  b_enumerate : mg "enumerate" = none
  b_int : mg "int" = none
  b_isinstance : mg "isinstance" = none
  b_len : mg "len" = none
  b_list : mg "list" = none
  b_min : mg "min" = none
  b_range : mg "range" = none
  b_sorted : mg "sorted" = none
  b_str : mg "str" = none
  b_tuple : mg "tuple" = none
def txt_mk {K : PySem.W.Frag} {h : Heap} {mg : Str → Option Value} (X : K.In h) (G : h.Ns mainGlobals mg)
    {C_DearError : Addr} {C_NoNumber : Addr} {C_NoBook : Addr} {C_NoTree : Addr} {C_TooMany : Addr} {C_NoCount : Addr} {C_NoUndo : Addr} {C_NoTurn : Addr} {C_NoRow : Addr} {C_Unknown : Addr} {C_NoTongue : Addr} {C_NoWants : Addr} {C_NoThing : Addr} {C_BadSign : Addr} {C_NoText : Addr} 
    {nm_NoWants qn_NoWants : Str} {N_NoWants I_NoWants : Addr} {bs_NoWants sb_NoWants : List Value} {sn_NoWants : List Str} {ab_NoWants : Bool} {col_NoWants : Option Bool} {dd_NoWants odI_NoWants anI_NoWants : Option Addr} {m0_NoWants m1_NoWants m2_NoWants m3_NoWants m5_NoWants : Option Value} {slI_NoWants : Array (Option Value)} {ocI_NoWants kVI_NoWants dcI_NoWants pmI_NoWants cdI_NoWants ctI_NoWants : Value}
    {f1 : Addr} {od1 an1 : Option Addr} {sl1 : Array (Option Value)} {oc1 kV1 dc1 pm1 cd1 ct1 : Value}
    {f2 : Addr} {od2 an2 : Option Addr} {sl2 : Array (Option Value)} {oc2 kV2 dc2 pm2 cd2 ct2 : Value}
    {f3 : Addr} {od3 an3 : Option Addr} {sl3 : Array (Option Value)} {oc3 kV3 dc3 pm3 cd3 ct3 : Value}
    {f4 : Addr} {od4 an4 : Option Addr} {sl4 : Array (Option Value)} {oc4 kV4 dc4 pm4 cd4 ct4 : Value}
    {f5 : Addr} {od5 an5 : Option Addr} {sl5 : Array (Option Value)} {oc5 kV5 dc5 pm5 cd5 ct5 : Value}
    {f6 : Addr} {od6 an6 : Option Addr} {sl6 : Array (Option Value)} {oc6 kV6 dc6 pm6 cd6 ct6 : Value}
    {f7 : Addr} {od7 an7 : Option Addr} {sl7 : Array (Option Value)} {oc7 kV7 dc7 pm7 cd7 ct7 : Value}
    {f8 : Addr} {od8 an8 : Option Addr} {sl8 : Array (Option Value)} {oc8 kV8 dc8 pm8 cd8 ct8 : Value}
    {f9 : Addr} {od9 an9 : Option Addr} {sl9 : Array (Option Value)} {oc9 kV9 dc9 pm9 cd9 ct9 : Value}
    {f10 : Addr} {od10 an10 : Option Addr} {sl10 : Array (Option Value)} {oc10 kV10 dc10 pm10 cd10 ct10 : Value}
    {f11 : Addr} {od11 an11 : Option Addr} {sl11 : Array (Option Value)} {oc11 kV11 dc11 pm11 cd11 ct11 : Value}
    {f12 : Addr} {od12 an12 : Option Addr} {sl12 : Array (Option Value)} {oc12 kV12 dc12 pm12 cd12 ct12 : Value}
    {f13 : Addr} {od13 an13 : Option Addr} {sl13 : Array (Option Value)} {oc13 kV13 dc13 pm13 cd13 ct13 : Value}
    {f14 : Addr} {od14 an14 : Option Addr} {sl14 : Array (Option Value)} {oc14 kV14 dc14 pm14 cd14 ct14 : Value}
    {f15 : Addr} {od15 an15 : Option Addr} {sl15 : Array (Option Value)} {oc15 kV15 dc15 pm15 cd15 ct15 : Value}
    {f16 : Addr} {od16 an16 : Option Addr} {sl16 : Array (Option Value)} {oc16 kV16 dc16 pm16 cd16 ct16 : Value}
    {f17 : Addr} {od17 an17 : Option Addr} {sl17 : Array (Option Value)} {oc17 kV17 dc17 pm17 cd17 ct17 : Value}
    {f18 : Addr} {od18 an18 : Option Addr} {sl18 : Array (Option Value)} {oc18 kV18 dc18 pm18 cd18 ct18 : Value}
    {t19 : Tok}
    {t20 : Tok}
    {t21 : Tok}
    {t22 : Tok}
    (g_DearError : PySem.W.nsIn K mainGlobals "DearError" = some (some (.ref C_DearError)))
    (i_DearError : PySem.W.isClsIn K C_DearError = true) (t_DearError : PySem.W.typeIn K (.ref C_DearError) = some (.type "type"))
    (g_NoNumber : PySem.W.nsIn K mainGlobals "NoNumber" = some (some (.ref C_NoNumber)))
    (i_NoNumber : PySem.W.isClsIn K C_NoNumber = true) (t_NoNumber : PySem.W.typeIn K (.ref C_NoNumber) = some (.type "type"))
    (g_NoBook : PySem.W.nsIn K mainGlobals "NoBook" = some (some (.ref C_NoBook)))
    (i_NoBook : PySem.W.isClsIn K C_NoBook = true) (t_NoBook : PySem.W.typeIn K (.ref C_NoBook) = some (.type "type"))
    (g_NoTree : PySem.W.nsIn K mainGlobals "NoTree" = some (some (.ref C_NoTree)))
    (i_NoTree : PySem.W.isClsIn K C_NoTree = true) (t_NoTree : PySem.W.typeIn K (.ref C_NoTree) = some (.type "type"))
    (g_TooMany : PySem.W.nsIn K mainGlobals "TooMany" = some (some (.ref C_TooMany)))
    (i_TooMany : PySem.W.isClsIn K C_TooMany = true) (t_TooMany : PySem.W.typeIn K (.ref C_TooMany) = some (.type "type"))
    (g_NoCount : PySem.W.nsIn K mainGlobals "NoCount" = some (some (.ref C_NoCount)))
    (i_NoCount : PySem.W.isClsIn K C_NoCount = true) (t_NoCount : PySem.W.typeIn K (.ref C_NoCount) = some (.type "type"))
    (g_NoUndo : PySem.W.nsIn K mainGlobals "NoUndo" = some (some (.ref C_NoUndo)))
    (i_NoUndo : PySem.W.isClsIn K C_NoUndo = true) (t_NoUndo : PySem.W.typeIn K (.ref C_NoUndo) = some (.type "type"))
    (g_NoTurn : PySem.W.nsIn K mainGlobals "NoTurn" = some (some (.ref C_NoTurn)))
    (i_NoTurn : PySem.W.isClsIn K C_NoTurn = true) (t_NoTurn : PySem.W.typeIn K (.ref C_NoTurn) = some (.type "type"))
    (g_NoRow : PySem.W.nsIn K mainGlobals "NoRow" = some (some (.ref C_NoRow)))
    (i_NoRow : PySem.W.isClsIn K C_NoRow = true) (t_NoRow : PySem.W.typeIn K (.ref C_NoRow) = some (.type "type"))
    (g_Unknown : PySem.W.nsIn K mainGlobals "Unknown" = some (some (.ref C_Unknown)))
    (i_Unknown : PySem.W.isClsIn K C_Unknown = true) (t_Unknown : PySem.W.typeIn K (.ref C_Unknown) = some (.type "type"))
    (g_NoTongue : PySem.W.nsIn K mainGlobals "NoTongue" = some (some (.ref C_NoTongue)))
    (i_NoTongue : PySem.W.isClsIn K C_NoTongue = true) (t_NoTongue : PySem.W.typeIn K (.ref C_NoTongue) = some (.type "type"))
    (g_NoWants : PySem.W.nsIn K mainGlobals "NoWants" = some (some (.ref C_NoWants)))
    (i_NoWants : PySem.W.isClsIn K C_NoWants = true) (t_NoWants : PySem.W.typeIn K (.ref C_NoWants) = some (.type "type"))
    (g_NoThing : PySem.W.nsIn K mainGlobals "NoThing" = some (some (.ref C_NoThing)))
    (i_NoThing : PySem.W.isClsIn K C_NoThing = true) (t_NoThing : PySem.W.typeIn K (.ref C_NoThing) = some (.type "type"))
    (g_BadSign : PySem.W.nsIn K mainGlobals "BadSign" = some (some (.ref C_BadSign)))
    (i_BadSign : PySem.W.isClsIn K C_BadSign = true) (t_BadSign : PySem.W.typeIn K (.ref C_BadSign) = some (.type "type"))
    (g_NoText : PySem.W.nsIn K mainGlobals "NoText" = some (some (.ref C_NoText)))
    (i_NoText : PySem.W.isClsIn K C_NoText = true) (t_NoText : PySem.W.typeIn K (.ref C_NoText) = some (.type "type"))
    (b_DearError : PySem.W.subIn K (.ref C_DearError) (.type "BaseException") = some true)
    (x1_NoTurn : PySem.W.excIn K C_NoTurn [.type "ValueError", .type "Exception", .type "BaseException", .type "object"] "ValueError.__new__" = true)
    (x2_NoTurn : PySem.W.keepIn K (.ref C_NoTurn) = true)
    (x3_NoTurn : PySem.W.subIn K (.ref C_NoTurn) (.type "BaseException") = some true)
    (x4_NoTurn : PySem.W.typeIn K (.ref C_NoTurn) = some (.type "type"))
    (x5_NoTurn : PySem.W.findIn K (.ref C_NoTurn) "__getattribute__" = some (some (.builtin "BaseException.__getattribute__")))
    (x6_NoTurn : PySem.W.findIn K (.ref C_NoTurn) "__getattr__" = some none)
    (x7_NoTurn : PySem.W.hasDictIn K C_NoTurn = true)
    (x8_NoTurn : PySem.W.findIn K (.ref C_NoTurn) "__class__" = some (some (.builtin "object.__class__")))
    (x9_NoTurn : PySem.W.specialIn K (.builtin "object.__class__") "__get__" = some (some (.builtin "getset_descriptor.__get__")))
    (x10_NoTurn : PySem.W.takesIn K (.builtin "object.__class__") = some true)
    (x11_NoTurn : PySem.W.mroIn K C_NoTurn (.type "object") = some true)
    (d1 : PySem.W.specialIn K (.ref C_DearError) "__getattribute__" = some (some (.builtin "type.__getattribute__")))
    (d2 : PySem.W.readsIn K C_DearError (.type "type") = true)
    (d3 : PySem.W.findCls K (.ref C_DearError) (.type "type") "__init__" = some (.val (.builtin "ValueError.__init__")))
    (xl_NoWants : K.lookup C_NoWants = some (excClassObj nm_NoWants qn_NoWants C_NoWants N_NoWants bs_NoWants [.ref C_DearError, .type "ValueError", .type "Exception", .type "BaseException", .type "object"] true sn_NoWants sb_NoWants ab_NoWants col_NoWants dd_NoWants m0_NoWants m1_NoWants m2_NoWants m3_NoWants m5_NoWants "ValueError.__new__"))
    (sa_NoWants : PySem.W.findIn K (.ref C_NoWants) "__setattr__" = some (some (.builtin "object.__setattr__")))
    (x2_NoWants : PySem.W.keepIn K (.ref C_NoWants) = true)
    (x3_NoWants : PySem.W.subIn K (.ref C_NoWants) (.type "BaseException") = some true)
    (x4_NoWants : PySem.W.typeIn K (.ref C_NoWants) = some (.type "type"))
    (x5_NoWants : PySem.W.findIn K (.ref C_NoWants) "__getattribute__" = some (some (.builtin "BaseException.__getattribute__")))
    (x6_NoWants : PySem.W.findIn K (.ref C_NoWants) "__getattr__" = some none)
    (x7_NoWants : PySem.W.hasDictIn K C_NoWants = true)
    (x8_NoWants : PySem.W.findIn K (.ref C_NoWants) "__class__" = some (some (.builtin "object.__class__")))
    (x9_NoWants : PySem.W.specialIn K (.builtin "object.__class__") "__get__" = some (some (.builtin "getset_descriptor.__get__")))
    (x10_NoWants : PySem.W.takesIn K (.builtin "object.__class__") = some true)
    (x11_NoWants : PySem.W.mroIn K C_NoWants (.type "object") = some true)
    (fn_NoWants : PySem.W.findIn K (.ref C_NoWants) "number" = some none)
    (i1_NoWants : PySem.W.findIn K (.ref C_NoWants) "__init__" = some (some (.ref I_NoWants)))
    (i2_NoWants : PySem.W.typeIn K (.ref I_NoWants) = some (.type "function"))
    (i3_NoWants : K.lookup I_NoWants = some ⟨ocI_NoWants, odI_NoWants, .func (PySem.W.fnOf "__init__" "NoWants.__init__" (defArgs s_NoWants___init__) (defBody s_NoWants___init__) (defScope s_NoWants___init__) .none kVI_NoWants dcI_NoWants pmI_NoWants anI_NoWants cdI_NoWants ctI_NoWants), slI_NoWants⟩)
    (i4_NoWants : PySem.W.codeIn K cdI_NoWants "NoWants.__init__" = true)
    (i5_NoWants : PySem.W.keepIn K (.ref I_NoWants) = true)
    (q_NoWants_DearError : PySem.W.subIn K (.ref C_NoWants) (.ref C_DearError) = some true)
    (n_NoWants_DearError : (Value.ref C_NoWants == Value.ref C_DearError) = false)
    (q_NoWants_NoNumber : PySem.W.subIn K (.ref C_NoWants) (.ref C_NoNumber) = some false)
    (n_NoWants_NoNumber : (Value.ref C_NoWants == Value.ref C_NoNumber) = false)
    (q_NoWants_NoBook : PySem.W.subIn K (.ref C_NoWants) (.ref C_NoBook) = some false)
    (n_NoWants_NoBook : (Value.ref C_NoWants == Value.ref C_NoBook) = false)
    (q_NoWants_NoTree : PySem.W.subIn K (.ref C_NoWants) (.ref C_NoTree) = some false)
    (n_NoWants_NoTree : (Value.ref C_NoWants == Value.ref C_NoTree) = false)
    (q_NoWants_TooMany : PySem.W.subIn K (.ref C_NoWants) (.ref C_TooMany) = some false)
    (n_NoWants_TooMany : (Value.ref C_NoWants == Value.ref C_TooMany) = false)
    (q_NoWants_NoCount : PySem.W.subIn K (.ref C_NoWants) (.ref C_NoCount) = some false)
    (n_NoWants_NoCount : (Value.ref C_NoWants == Value.ref C_NoCount) = false)
    (q_NoWants_NoUndo : PySem.W.subIn K (.ref C_NoWants) (.ref C_NoUndo) = some false)
    (n_NoWants_NoUndo : (Value.ref C_NoWants == Value.ref C_NoUndo) = false)
    (q_NoWants_NoTurn : PySem.W.subIn K (.ref C_NoWants) (.ref C_NoTurn) = some false)
    (n_NoWants_NoTurn : (Value.ref C_NoWants == Value.ref C_NoTurn) = false)
    (q_NoWants_NoRow : PySem.W.subIn K (.ref C_NoWants) (.ref C_NoRow) = some false)
    (n_NoWants_NoRow : (Value.ref C_NoWants == Value.ref C_NoRow) = false)
    (q_NoWants_Unknown : PySem.W.subIn K (.ref C_NoWants) (.ref C_Unknown) = some false)
    (n_NoWants_Unknown : (Value.ref C_NoWants == Value.ref C_Unknown) = false)
    (q_NoWants_NoTongue : PySem.W.subIn K (.ref C_NoWants) (.ref C_NoTongue) = some false)
    (n_NoWants_NoTongue : (Value.ref C_NoWants == Value.ref C_NoTongue) = false)
    (q_NoWants_NoWants : PySem.W.subIn K (.ref C_NoWants) (.ref C_NoWants) = some true)
    (q_NoWants_NoThing : PySem.W.subIn K (.ref C_NoWants) (.ref C_NoThing) = some false)
    (n_NoWants_NoThing : (Value.ref C_NoWants == Value.ref C_NoThing) = false)
    (q_NoWants_BadSign : PySem.W.subIn K (.ref C_NoWants) (.ref C_BadSign) = some false)
    (n_NoWants_BadSign : (Value.ref C_NoWants == Value.ref C_BadSign) = false)
    (q_NoWants_NoText : PySem.W.subIn K (.ref C_NoWants) (.ref C_NoText) = some false)
    (n_NoWants_NoText : (Value.ref C_NoWants == Value.ref C_NoText) = false)
    (q_NoWants_ValueError : PySem.W.subIn K (.ref C_NoWants) (.type "ValueError") = some true)
    (q_NoTurn_DearError : PySem.W.subIn K (.ref C_NoTurn) (.ref C_DearError) = some true)
    (n_NoTurn_DearError : (Value.ref C_NoTurn == Value.ref C_DearError) = false)
    (q_NoTurn_NoNumber : PySem.W.subIn K (.ref C_NoTurn) (.ref C_NoNumber) = some false)
    (n_NoTurn_NoNumber : (Value.ref C_NoTurn == Value.ref C_NoNumber) = false)
    (q_NoTurn_NoBook : PySem.W.subIn K (.ref C_NoTurn) (.ref C_NoBook) = some false)
    (n_NoTurn_NoBook : (Value.ref C_NoTurn == Value.ref C_NoBook) = false)
    (q_NoTurn_NoTree : PySem.W.subIn K (.ref C_NoTurn) (.ref C_NoTree) = some false)
    (n_NoTurn_NoTree : (Value.ref C_NoTurn == Value.ref C_NoTree) = false)
    (q_NoTurn_TooMany : PySem.W.subIn K (.ref C_NoTurn) (.ref C_TooMany) = some false)
    (n_NoTurn_TooMany : (Value.ref C_NoTurn == Value.ref C_TooMany) = false)
    (q_NoTurn_NoCount : PySem.W.subIn K (.ref C_NoTurn) (.ref C_NoCount) = some false)
    (n_NoTurn_NoCount : (Value.ref C_NoTurn == Value.ref C_NoCount) = false)
    (q_NoTurn_NoUndo : PySem.W.subIn K (.ref C_NoTurn) (.ref C_NoUndo) = some false)
    (n_NoTurn_NoUndo : (Value.ref C_NoTurn == Value.ref C_NoUndo) = false)
    (q_NoTurn_NoTurn : PySem.W.subIn K (.ref C_NoTurn) (.ref C_NoTurn) = some true)
    (q_NoTurn_NoRow : PySem.W.subIn K (.ref C_NoTurn) (.ref C_NoRow) = some false)
    (n_NoTurn_NoRow : (Value.ref C_NoTurn == Value.ref C_NoRow) = false)
    (q_NoTurn_Unknown : PySem.W.subIn K (.ref C_NoTurn) (.ref C_Unknown) = some false)
    (n_NoTurn_Unknown : (Value.ref C_NoTurn == Value.ref C_Unknown) = false)
    (q_NoTurn_NoTongue : PySem.W.subIn K (.ref C_NoTurn) (.ref C_NoTongue) = some false)
    (n_NoTurn_NoTongue : (Value.ref C_NoTurn == Value.ref C_NoTongue) = false)
    (q_NoTurn_NoWants : PySem.W.subIn K (.ref C_NoTurn) (.ref C_NoWants) = some false)
    (n_NoTurn_NoWants : (Value.ref C_NoTurn == Value.ref C_NoWants) = false)
    (q_NoTurn_NoThing : PySem.W.subIn K (.ref C_NoTurn) (.ref C_NoThing) = some false)
    (n_NoTurn_NoThing : (Value.ref C_NoTurn == Value.ref C_NoThing) = false)
    (q_NoTurn_BadSign : PySem.W.subIn K (.ref C_NoTurn) (.ref C_BadSign) = some false)
    (n_NoTurn_BadSign : (Value.ref C_NoTurn == Value.ref C_BadSign) = false)
    (q_NoTurn_NoText : PySem.W.subIn K (.ref C_NoTurn) (.ref C_NoText) = some false)
    (n_NoTurn_NoText : (Value.ref C_NoTurn == Value.ref C_NoText) = false)
    (q_NoTurn_ValueError : PySem.W.subIn K (.ref C_NoTurn) (.type "ValueError") = some true)
    (b_NoWants : PySem.W.subIn K (.ref C_NoWants) (.type "BaseException") = some true)
    (a1 : PySem.W.nsIn K mainGlobals "is_whole" = some (some (.ref f1))) (l1 : K.lookup f1 = some ⟨oc1, od1, .func (PySem.W.fnOf "is_whole" "is_whole" (defArgs s_is_whole) (defBody s_is_whole) (defScope s_is_whole) .none kV1 dc1 pm1 an1 cd1 ct1), sl1⟩) (c1 : PySem.W.codeIn K cd1 "is_whole" = true) (k1 : PySem.W.keepIn K (.ref f1) = true)
    (a2 : PySem.W.nsIn K mainGlobals "is_name" = some (some (.ref f2))) (l2 : K.lookup f2 = some ⟨oc2, od2, .func (PySem.W.fnOf "is_name" "is_name" (defArgs s_is_name) (defBody s_is_name) (defScope s_is_name) .none kV2 dc2 pm2 an2 cd2 ct2), sl2⟩) (c2 : PySem.W.codeIn K cd2 "is_name" = true) (k2 : PySem.W.keepIn K (.ref f2) = true)
    (a3 : PySem.W.nsIn K mainGlobals "is_want" = some (some (.ref f3))) (l3 : K.lookup f3 = some ⟨oc3, od3, .func (PySem.W.fnOf "is_want" "is_want" (defArgs s_is_want) (defBody s_is_want) (defScope s_is_want) .none kV3 dc3 pm3 an3 cd3 ct3), sl3⟩) (c3 : PySem.W.codeIn K cd3 "is_want" = true) (k3 : PySem.W.keepIn K (.ref f3) = true)
    (a4 : PySem.W.nsIn K mainGlobals "look_at_wants" = some (some (.ref f4))) (l4 : K.lookup f4 = some ⟨oc4, od4, .func (PySem.W.fnOf "look_at_wants" "look_at_wants" (defArgs s_look_at_wants) (defBody s_look_at_wants) (defScope s_look_at_wants) .none kV4 dc4 pm4 an4 cd4 ct4), sl4⟩) (c4 : PySem.W.codeIn K cd4 "look_at_wants" = true) (k4 : PySem.W.keepIn K (.ref f4) = true)
    (a5 : PySem.W.nsIn K mainGlobals "look_at_order" = some (some (.ref f5))) (l5 : K.lookup f5 = some ⟨oc5, od5, .func (PySem.W.fnOf "look_at_order" "look_at_order" (defArgs s_look_at_order) (defBody s_look_at_order) (defScope s_look_at_order) .none kV5 dc5 pm5 an5 cd5 ct5), sl5⟩) (c5 : PySem.W.codeIn K cd5 "look_at_order" = true) (k5 : PySem.W.keepIn K (.ref f5) = true)
    (a6 : PySem.W.nsIn K mainGlobals "put_so" = some (some (.ref f6))) (l6 : K.lookup f6 = some ⟨oc6, od6, .func (PySem.W.fnOf "put_so" "put_so" (defArgs s_put_so) (defBody s_put_so) (defScope s_put_so) .none kV6 dc6 pm6 an6 cd6 ct6), sl6⟩) (c6 : PySem.W.codeIn K cd6 "put_so" = true) (k6 : PySem.W.keepIn K (.ref f6) = true)
    (a7 : PySem.W.nsIn K mainGlobals "put_wants" = some (some (.ref f7))) (l7 : K.lookup f7 = some ⟨oc7, od7, .func (PySem.W.fnOf "put_wants" "put_wants" (defArgs s_put_wants) (defBody s_put_wants) (defScope s_put_wants) .none kV7 dc7 pm7 an7 cd7 ct7), sl7⟩) (c7 : PySem.W.codeIn K cd7 "put_wants" = true) (k7 : PySem.W.keepIn K (.ref f7) = true)
    (a8 : PySem.W.nsIn K mainGlobals "put_book" = some (some (.ref f8))) (l8 : K.lookup f8 = some ⟨oc8, od8, .func (PySem.W.fnOf "put_book" "put_book" (defArgs s_put_book) (defBody s_put_book) (defScope s_put_book) .none kV8 dc8 pm8 an8 cd8 ct8), sl8⟩) (c8 : PySem.W.codeIn K cd8 "put_book" = true) (k8 : PySem.W.keepIn K (.ref f8) = true)
    (a9 : PySem.W.nsIn K mainGlobals "_law_cell" = some (some (.ref f9))) (l9 : K.lookup f9 = some ⟨oc9, od9, .func (PySem.W.fnOf "_law_cell" "_law_cell" (defArgs s__law_cell) (defBody s__law_cell) (defScope s__law_cell) .none kV9 dc9 pm9 an9 cd9 ct9), sl9⟩) (c9 : PySem.W.codeIn K cd9 "_law_cell" = true) (k9 : PySem.W.keepIn K (.ref f9) = true)
    (a10 : PySem.W.nsIn K mainGlobals "_law_draws" = some (some (.ref f10))) (l10 : K.lookup f10 = some ⟨oc10, od10, .func (PySem.W.fnOf "_law_draws" "_law_draws" (defArgs s__law_draws) (defBody s__law_draws) (defScope s__law_draws) .none kV10 dc10 pm10 an10 cd10 ct10), sl10⟩) (c10 : PySem.W.codeIn K cd10 "_law_draws" = true) (k10 : PySem.W.keepIn K (.ref f10) = true)
    (a11 : PySem.W.nsIn K mainGlobals "_law_wants" = some (some (.ref f11))) (l11 : K.lookup f11 = some ⟨oc11, od11, .func (PySem.W.fnOf "_law_wants" "_law_wants" (defArgs s__law_wants) (defBody s__law_wants) (defScope s__law_wants) .none kV11 dc11 pm11 an11 cd11 ct11), sl11⟩) (c11 : PySem.W.codeIn K cd11 "_law_wants" = true) (k11 : PySem.W.keepIn K (.ref f11) = true)
    (a12 : PySem.W.nsIn K mainGlobals "_law_is_no_turn" = some (some (.ref f12))) (l12 : K.lookup f12 = some ⟨oc12, od12, .func (PySem.W.fnOf "_law_is_no_turn" "_law_is_no_turn" (defArgs s__law_is_no_turn) (defBody s__law_is_no_turn) (defScope s__law_is_no_turn) .none kV12 dc12 pm12 an12 cd12 ct12), sl12⟩) (c12 : PySem.W.codeIn K cd12 "_law_is_no_turn" = true) (k12 : PySem.W.keepIn K (.ref f12) = true)
    (a13 : PySem.W.nsIn K mainGlobals "_law_order" = some (some (.ref f13))) (l13 : K.lookup f13 = some ⟨oc13, od13, .func (PySem.W.fnOf "_law_order" "_law_order" (defArgs s__law_order) (defBody s__law_order) (defScope s__law_order) .none kV13 dc13 pm13 an13 cd13 ct13), sl13⟩) (c13 : PySem.W.codeIn K cd13 "_law_order" = true) (k13 : PySem.W.keepIn K (.ref f13) = true)
    (a14 : PySem.W.nsIn K mainGlobals "_law_no_order" = some (some (.ref f14))) (l14 : K.lookup f14 = some ⟨oc14, od14, .func (PySem.W.fnOf "_law_no_order" "_law_no_order" (defArgs s__law_no_order) (defBody s__law_no_order) (defScope s__law_no_order) .none kV14 dc14 pm14 an14 cd14 ct14), sl14⟩) (c14 : PySem.W.codeIn K cd14 "_law_no_order" = true) (k14 : PySem.W.keepIn K (.ref f14) = true)
    (a15 : PySem.W.nsIn K mainGlobals "_law_refused" = some (some (.ref f15))) (l15 : K.lookup f15 = some ⟨oc15, od15, .func (PySem.W.fnOf "_law_refused" "_law_refused" (defArgs s__law_refused) (defBody s__law_refused) (defScope s__law_refused) .none kV15 dc15 pm15 an15 cd15 ct15), sl15⟩) (c15 : PySem.W.codeIn K cd15 "_law_refused" = true) (k15 : PySem.W.keepIn K (.ref f15) = true)
    (a16 : PySem.W.nsIn K mainGlobals "_law_no_wants" = some (some (.ref f16))) (l16 : K.lookup f16 = some ⟨oc16, od16, .func (PySem.W.fnOf "_law_no_wants" "_law_no_wants" (defArgs s__law_no_wants) (defBody s__law_no_wants) (defScope s__law_no_wants) .none kV16 dc16 pm16 an16 cd16 ct16), sl16⟩) (c16 : PySem.W.codeIn K cd16 "_law_no_wants" = true) (k16 : PySem.W.keepIn K (.ref f16) = true)
    (a17 : PySem.W.nsIn K mainGlobals "_law_number" = some (some (.ref f17))) (l17 : K.lookup f17 = some ⟨oc17, od17, .func (PySem.W.fnOf "_law_number" "_law_number" (defArgs s__law_number) (defBody s__law_number) (defScope s__law_number) .none kV17 dc17 pm17 an17 cd17 ct17), sl17⟩) (c17 : PySem.W.codeIn K cd17 "_law_number" = true) (k17 : PySem.W.keepIn K (.ref f17) = true)
    (a18 : PySem.W.nsIn K mainGlobals "law" = some (some (.ref f18))) (l18 : K.lookup f18 = some ⟨oc18, od18, .func (PySem.W.fnOf "law" "law" (defArgs s_law) (defBody s_law) (defScope s_law) .none kV18 dc18 pm18 an18 cd18 ct18), sl18⟩) (c18 : PySem.W.codeIn K cd18 "law" = true) (k18 : PySem.W.keepIn K (.ref f18) = true)
    (a19 : PySem.W.nsIn K mainGlobals "LETTERS" = some (some (.str "abcdefghijklmnopqrstuvwxyz" t19)))
    (a20 : PySem.W.nsIn K mainGlobals "LONGEST" = some (some (.int 8 t20)))
    (a21 : PySem.W.nsIn K mainGlobals "MOST_THINGS" = some (some (.int 20 t21)))
    (a22 : PySem.W.nsIn K mainGlobals "GREATEST_COUNT" = some (some (.int 1000000000 t22)))
    (a23 : PySem.W.nsIn K mainGlobals "ValueError" = some none)
    (a24 : PySem.W.nsIn K mainGlobals "abs" = some none)
    (a25 : PySem.W.nsIn K mainGlobals "all" = some none)
    (a26 : PySem.W.nsIn K mainGlobals "bool" = some none)
    (a27 : PySem.W.nsIn K mainGlobals "enumerate" = some none)
    (a28 : PySem.W.nsIn K mainGlobals "int" = some none)
    (a29 : PySem.W.nsIn K mainGlobals "isinstance" = some none)
    (a30 : PySem.W.nsIn K mainGlobals "len" = some none)
    (a31 : PySem.W.nsIn K mainGlobals "list" = some none)
    (a32 : PySem.W.nsIn K mainGlobals "min" = some none)
    (a33 : PySem.W.nsIn K mainGlobals "range" = some none)
    (a34 : PySem.W.nsIn K mainGlobals "sorted" = some none)
    (a35 : PySem.W.nsIn K mainGlobals "str" = some none)
    (a36 : PySem.W.nsIn K mainGlobals "tuple" = some none)
    : Txt K mg :=
  ⟨⟨C_DearError, C_NoNumber, C_NoBook, C_NoTree, C_TooMany, C_NoCount, C_NoUndo, C_NoTurn, C_NoRow, C_Unknown, C_NoTongue, C_NoWants, C_NoThing, C_BadSign, C_NoText⟩,
   PySem.W.mg_of X G g_DearError,
   PySem.W.mg_of X G g_NoNumber,
   PySem.W.mg_of X G g_NoBook,
   PySem.W.mg_of X G g_NoTree,
   PySem.W.mg_of X G g_TooMany,
   PySem.W.mg_of X G g_NoCount,
   PySem.W.mg_of X G g_NoUndo,
   PySem.W.mg_of X G g_NoTurn,
   PySem.W.mg_of X G g_NoRow,
   PySem.W.mg_of X G g_Unknown,
   PySem.W.mg_of X G g_NoTongue,
   PySem.W.mg_of X G g_NoWants,
   PySem.W.mg_of X G g_NoThing,
   PySem.W.mg_of X G g_BadSign,
   PySem.W.mg_of X G g_NoText,
   ⟨PySem.W.mg_of X G g_NoTurn, x1_NoTurn, x2_NoTurn, x3_NoTurn, x4_NoTurn, ⟨x5_NoTurn, x6_NoTurn, x3_NoTurn, x7_NoTurn, x8_NoTurn, x9_NoTurn, x10_NoTurn, x11_NoTurn⟩⟩,
   ⟨PySem.W.mg_of X G g_DearError, d1, d2, d3⟩,
   ⟨PySem.W.mg_of X G g_NoWants, ⟨⟨nm_NoWants, qn_NoWants, N_NoWants, bs_NoWants, _, sn_NoWants, sb_NoWants, ab_NoWants, col_NoWants, dd_NoWants, m0_NoWants, m1_NoWants, m2_NoWants, m3_NoWants, m5_NoWants, xl_NoWants, rfl⟩, sa_NoWants, x3_NoWants, x4_NoWants, x2_NoWants⟩, fn_NoWants, ⟨x5_NoWants, x6_NoWants, x3_NoWants, x7_NoWants, x8_NoWants, x9_NoWants, x10_NoWants, x11_NoWants⟩⟩,
   ⟨I_NoWants, _, i1_NoWants, i2_NoWants, fun_mk (st := s_NoWants___init__) i3_NoWants i4_NoWants i5_NoWants, (fun_mk (st := s_NoWants___init__) i3_NoWants i4_NoWants i5_NoWants).binds (ps := ["self", "number"]) fun _ _ _ _ _ _ us hl => match us, hl with | [_, _], _ => rfl⟩,
   kit_ref n_NoWants_DearError i_DearError t_DearError q_NoWants_DearError,
   kit_ref n_NoWants_NoNumber i_NoNumber t_NoNumber q_NoWants_NoNumber,
   kit_ref n_NoWants_NoBook i_NoBook t_NoBook q_NoWants_NoBook,
   kit_ref n_NoWants_NoTree i_NoTree t_NoTree q_NoWants_NoTree,
   kit_ref n_NoWants_TooMany i_TooMany t_TooMany q_NoWants_TooMany,
   kit_ref n_NoWants_NoCount i_NoCount t_NoCount q_NoWants_NoCount,
   kit_ref n_NoWants_NoUndo i_NoUndo t_NoUndo q_NoWants_NoUndo,
   kit_ref n_NoWants_NoTurn i_NoTurn t_NoTurn q_NoWants_NoTurn,
   kit_ref n_NoWants_NoRow i_NoRow t_NoRow q_NoWants_NoRow,
   kit_ref n_NoWants_Unknown i_Unknown t_Unknown q_NoWants_Unknown,
   kit_ref n_NoWants_NoTongue i_NoTongue t_NoTongue q_NoWants_NoTongue,
   kit_self,
   kit_ref n_NoWants_NoThing i_NoThing t_NoThing q_NoWants_NoThing,
   kit_ref n_NoWants_BadSign i_BadSign t_BadSign q_NoWants_BadSign,
   kit_ref n_NoWants_NoText i_NoText t_NoText q_NoWants_NoText,
   kit_val q_NoWants_ValueError,
   exm_ref2 b_DearError i_DearError t_DearError q_NoWants_DearError,
   kit_ref n_NoTurn_DearError i_DearError t_DearError q_NoTurn_DearError,
   kit_ref n_NoTurn_NoNumber i_NoNumber t_NoNumber q_NoTurn_NoNumber,
   kit_ref n_NoTurn_NoBook i_NoBook t_NoBook q_NoTurn_NoBook,
   kit_ref n_NoTurn_NoTree i_NoTree t_NoTree q_NoTurn_NoTree,
   kit_ref n_NoTurn_TooMany i_TooMany t_TooMany q_NoTurn_TooMany,
   kit_ref n_NoTurn_NoCount i_NoCount t_NoCount q_NoTurn_NoCount,
   kit_ref n_NoTurn_NoUndo i_NoUndo t_NoUndo q_NoTurn_NoUndo,
   kit_self,
   kit_ref n_NoTurn_NoRow i_NoRow t_NoRow q_NoTurn_NoRow,
   kit_ref n_NoTurn_Unknown i_Unknown t_Unknown q_NoTurn_Unknown,
   kit_ref n_NoTurn_NoTongue i_NoTongue t_NoTongue q_NoTurn_NoTongue,
   kit_ref n_NoTurn_NoWants i_NoWants t_NoWants q_NoTurn_NoWants,
   kit_ref n_NoTurn_NoThing i_NoThing t_NoThing q_NoTurn_NoThing,
   kit_ref n_NoTurn_BadSign i_BadSign t_BadSign q_NoTurn_BadSign,
   kit_ref n_NoTurn_NoText i_NoText t_NoText q_NoTurn_NoText,
   kit_val q_NoTurn_ValueError,
   exm_ref2 b_DearError i_DearError t_DearError q_NoTurn_DearError,
   exm_ref2 b_NoWants i_NoWants t_NoWants q_NoWants_NoWants,
   ⟨f1, _, PySem.W.mg_of X G a1, fun_mk (st := s_is_whole) l1 c1 k1, (fun_mk (st := s_is_whole) l1 c1 k1).binds (ps := ["thing"]) fun _ _ _ _ _ _ us hl => match us, hl with | [_], _ => rfl⟩,
   ⟨f2, _, PySem.W.mg_of X G a2, fun_mk (st := s_is_name) l2 c2 k2, (fun_mk (st := s_is_name) l2 c2 k2).binds (ps := ["thing"]) fun _ _ _ _ _ _ us hl => match us, hl with | [_], _ => rfl⟩,
   ⟨f3, _, PySem.W.mg_of X G a3, fun_mk (st := s_is_want) l3 c3 k3, (fun_mk (st := s_is_want) l3 c3 k3).binds (ps := ["thing"]) fun _ _ _ _ _ _ us hl => match us, hl with | [_], _ => rfl⟩,
   ⟨f4, _, PySem.W.mg_of X G a4, fun_mk (st := s_look_at_wants) l4 c4 k4, (fun_mk (st := s_look_at_wants) l4 c4 k4).binds (ps := ["thing"]) fun _ _ _ _ _ _ us hl => match us, hl with | [_], _ => rfl⟩,
   ⟨f5, _, PySem.W.mg_of X G a5, fun_mk (st := s_look_at_order) l5 c5 k5, (fun_mk (st := s_look_at_order) l5 c5 k5).binds (ps := ["many", "order"]) fun _ _ _ _ _ _ us hl => match us, hl with | [_, _], _ => rfl⟩,
   ⟨f6, _, PySem.W.mg_of X G a6, fun_mk (st := s_put_so) l6 c6 k6, (fun_mk (st := s_put_so) l6 c6 k6).binds (ps := ["some", "order"]) fun _ _ _ _ _ _ us hl => match us, hl with | [_, _], _ => rfl⟩,
   ⟨f7, _, PySem.W.mg_of X G a7, fun_mk (st := s_put_wants) l7 c7 k7, (fun_mk (st := s_put_wants) l7 c7 k7).binds (ps := ["wants", "order"]) fun _ _ _ _ _ _ us hl => match us, hl with | [_, _], _ => rfl⟩,
   ⟨f8, _, PySem.W.mg_of X G a8, fun_mk (st := s_put_book) l8 c8 k8, (fun_mk (st := s_put_book) l8 c8 k8).binds (ps := ["book", "order"]) fun _ _ _ _ _ _ us hl => match us, hl with | [_, _], _ => rfl⟩,
   ⟨f9, _, PySem.W.mg_of X G a9, fun_mk (st := s__law_cell) l9 c9 k9, (fun_mk (st := s__law_cell) l9 c9 k9).binds (ps := ["_law_script", "_law_k"]) fun _ _ _ _ _ _ us hl => match us, hl with | [_, _], _ => rfl⟩,
   ⟨f10, _, PySem.W.mg_of X G a10, fun_mk (st := s__law_draws) l10 c10 k10, (fun_mk (st := s__law_draws) l10 c10 k10).binds (ps := ["_law_cell_here", "_law_k", "_law_sizes"]) fun _ _ _ _ _ _ us hl => match us, hl with | [_, _, _], _ => rfl⟩,
   ⟨f11, _, PySem.W.mg_of X G a11, fun_mk (st := s__law_wants) l11 c11 k11, (fun_mk (st := s__law_wants) l11 c11 k11).binds (ps := ["_law_script", "_law_at", "_law_many"]) fun _ _ _ _ _ _ us hl => match us, hl with | [_, _, _], _ => rfl⟩,
   ⟨f12, _, PySem.W.mg_of X G a12, fun_mk (st := s__law_is_no_turn) l12 c12 k12, (fun_mk (st := s__law_is_no_turn) l12 c12 k12).binds (ps := ["_law_kept"]) fun _ _ _ _ _ _ us hl => match us, hl with | [_], _ => rfl⟩,
   ⟨f13, _, PySem.W.mg_of X G a13, fun_mk (st := s__law_order) l13 c13 k13, (fun_mk (st := s__law_order) l13 c13 k13).binds (ps := ["_law_cell_here", "_law_k", "_law_many"]) fun _ _ _ _ _ _ us hl => match us, hl with | [_, _, _], _ => rfl⟩,
   ⟨f14, _, PySem.W.mg_of X G a14, fun_mk (st := s__law_no_order) l14 c14 k14, (fun_mk (st := s__law_no_order) l14 c14 k14).binds (ps := ["_law_order_here", "_law_cell_here", "_law_k"]) fun _ _ _ _ _ _ us hl => match us, hl with | [_, _, _], _ => rfl⟩,
   ⟨f15, _, PySem.W.mg_of X G a15, fun_mk (st := s__law_refused) l15 c15 k15, (fun_mk (st := s__law_refused) l15 c15 k15).binds (ps := ["_law_things", "_law_thing", "_law_way"]) fun _ _ _ _ _ _ us hl => match us, hl with | [_, _, _], _ => rfl⟩,
   ⟨f16, _, PySem.W.mg_of X G a16, fun_mk (st := s__law_no_wants) l16 c16 k16, (fun_mk (st := s__law_no_wants) l16 c16 k16).binds (ps := ["_law_wants_here"]) fun _ _ _ _ _ _ us hl => match us, hl with | [_], _ => rfl⟩,
   ⟨f17, _, PySem.W.mg_of X G a17, fun_mk (st := s__law_number) l17 c17 k17, (fun_mk (st := s__law_number) l17 c17 k17).binds (ps := ["_law_thing", "_law_order_here"]) fun _ _ _ _ _ _ us hl => match us, hl with | [_, _], _ => rfl⟩,
   ⟨f18, _, PySem.W.mg_of X G a18, fun_mk (st := s_law) l18 c18 k18, (fun_mk (st := s_law) l18 c18 k18).binds (ps := ["_law_script"]) fun _ _ _ _ _ _ us hl => match us, hl with | [_], _ => rfl⟩,
   ⟨_, PySem.W.mg_of X G a19⟩,
   ⟨_, PySem.W.mg_of X G a20⟩,
   ⟨_, PySem.W.mg_of X G a21⟩,
   ⟨_, PySem.W.mg_of X G a22⟩,
   PySem.W.mg_none_of X G a23,
   PySem.W.mg_none_of X G a24,
   PySem.W.mg_none_of X G a25,
   PySem.W.mg_none_of X G a26,
   PySem.W.mg_none_of X G a27,
   PySem.W.mg_none_of X G a28,
   PySem.W.mg_none_of X G a29,
   PySem.W.mg_none_of X G a30,
   PySem.W.mg_none_of X G a31,
   PySem.W.mg_none_of X G a32,
   PySem.W.mg_none_of X G a33,
   PySem.W.mg_none_of X G a34,
   PySem.W.mg_none_of X G a35,
   PySem.W.mg_none_of X G a36⟩
theorem oi_NoWants {P : Program} {w : World} {K : PySem.W.Frag} {mg : Str → Option Value} {base : Heap} (T : Txt K mg) : OkI P w K mg base "NoWants" "number" T.A.NoWants := by
  obtain ⟨fI, fd, h1, h2, F, b⟩ := T.F_NoWants
  refine ⟨fI, fd, h1, h2, F.ok c_NoWants___init__ (fun vs H Q E h => ?_) (fun cdv A outer s H vs Q E hr h => ?_), b, T.X_NoWants⟩
  · obtain ⟨a, C, v, rfl, _⟩ := h
    rfl
  · obtain ⟨a, C, v, rfl, o, n, ha, fv, k⟩ := h
    refine ⟨_, (pss_cons (ps_expr (pe_drinit T.D_DearError (pa_cons (pv 0) (pa_cons (pe_joined (.cons pe_str (.cons (pe_fmtN (pv 1)) .nil))) pa_nil)))) (pss_one (ps_ost (pv 0) (pv 1)))), ?_⟩
    refine ⟨_, rfl, _, rfl, (by decide +kernel), _, rfl, fv, fun z hz => ⟨z, rfl, ?_, ?_⟩⟩
    · rw [str_len]
      exact Nat.le_trans (Nat.add_le_add_right (show _ ≤ 100 by decide +kernel) _) (sz_lit (by omega))
    · exact ⟨a, C, _, rfl, (by decide : 1 ≤ 1000), o, ha, _, rfl, _, rfl, a, C, rfl, o, n, .inl ⟨ha, fun dx hd ne => k dx hd ne⟩⟩

end Dear


namespace Dear
open PySem PySem.Spec PyProof.Rows L2
section
variable {P : Program} {w : World} {K : PySem.W.Frag} {mg : Str → Option Value} {base : Heap}
theorem o_is_whole (T : Txt K mg) : OkF P w K mg base CX0 1 "is_whole" ["thing"] spWhole := by
  refine T.f_is_whole.ok c_is_whole (fun vs H Q E h => ?_) (fun f cdv A outer s H vs Q E hr h => ?_)
  · obtain ⟨v, n, rfl, _⟩ := h
    rfl
  · obtain ⟨v, d, rfl, hI, k⟩ := h
    refine ⟨_, (pss_one (ps_ret (pe_and (pe_callB (call_isi_k K) (by rfl) T.b_isinstance (by decide +kernel) (pa_cons (pv 0) (pa_cons (pe_bltn (v := .ty "int") (by rfl) T.b_int (by decide +kernel) rfl) pa_nil))) (pe_one (pe_not (pe_callB (call_isi_k K) (by rfl) T.b_isinstance (by decide +kernel) (pa_cons (pv 0) (pa_cons (pe_bltn (v := .ty "bool") (by rfl) T.b_bool (by decide +kernel) rfl) pa_nil)))))))), ?_⟩
    refine ⟨_, rfl, _, _, _, _, _, rfl, .ty _, hI.ty, kit_ty (kd_int d), _, rfl, ?_⟩
    cases d with
    | int i => exact iteT ⟨_, rfl, _, _, _, _, _, rfl, .ty _, hI.ty, kit_ty (kd_bool _), _, rfl, k⟩
    | bl i => exact iteT ⟨_, rfl, _, _, _, _, _, rfl, .ty _, hI.ty, kit_ty (kd_bool _), _, rfl, k⟩
    | non => exact iteF k
    | str z => exact iteF k
    | lst z => exact iteF k
    | tup z => exact iteF k
    | dct => exact iteF k
theorem o_is_name (T : Txt K mg) : OkF P w K mg base CX0 1 "is_name" ["thing"] spNm := by
  refine T.f_is_name.ok c_is_name (fun vs H Q E h => ?_) (fun f cdv A outer s H vs Q E hr h => ?_)
  · obtain ⟨v, n, rfl, _⟩ := h
    rfl
  · obtain ⟨v, d, rfl, hI, ok, k⟩ := h
    refine ⟨_, (pss_cons (ps_if (PW.pt (pw_or (pt_not (pt_val (pe_callB (call_isi_k K) (by rfl) T.b_isinstance (by decide +kernel) (pa_cons (pv 0) (pa_cons (pe_bltn (v := .ty "str") (by rfl) T.b_str (by decide +kernel) rfl) pa_nil))))) (pw_or1 (pt_not (pt_chain op_le op_le pe_int (pe_callB call_len_str (by rfl) T.b_len PySem.boot_len (pa_cons (pv 0) pa_nil)) (pe_gi T.g_LONGEST))))))
(pss_one (ps_ret pe_bl))
pss_nil)
(pss_one (ps_ret (pe_callB (cr_all_k K rfl) (by rfl) T.b_all (by decide +kernel) (pa_cons (pe_lc (own := [("sign", 1)]) (g := gName 1) (tt := tYes) (by rfl) c_is_name.nd (pi_str (pv 0)) (blkOk_by (own := [("sign", 1)]) (N := n_is_name) (sc := defScope s_is_name) (by decide +kernel)) (fun _ _ _ _ _ => (pg_name (i := 1) c_is_name.nd rfl (Or.inl rfl))) (fun _ _ _ _ _ => pts_nil) (fun _ _ _ _ _ => (pe_cmpR op_in_sign (pv 1) (pe_gs T.g_LETTERS) rfl))) pa_nil))))), ?_⟩
    refine ⟨_, rfl, _, _, _, _, _, rfl, .ty _, hI.ty, kit_ty (kd_str d), _, rfl, ?_⟩
    cases hI with
    | str z =>
      have hz : z.length ≤ sizeLine := Nat.le_trans ok.1 (by decide)
      refine iteF ⟨_, rfl, _, rfl, hz, _, _, rfl, rfl, _, rfl, itd (fun c1 => ?_) fun c1 => ?_⟩
      · refine ⟨_, _, rfl, rfl, _, rfl, itnd (fun c2 => ?_) fun c2 => ?_⟩
        · have e3 : isNm (.str z) = false := by
            show (decide (1 ≤ z.length ∧ z.length ≤ 8) && _) = false
            rw [decide_eq_false (by omega), Bool.false_and]
          rw [e3] at k
          exact k H (Same.refl H)
        · refine ⟨_, rfl, z, rfl, fun D hD => lc_it walk_str (fun i H' => ∃ bs : List Bool, bs = (z.cps.toList.take i).map (fun c => decide (c ∈ letters.cps.toList)) ∧ H' = upd H D (.lst (bs.map V.bl))) ⟨[], rfl, rfl⟩ (fun _ _ _ _ => trivial) ?_ ?_⟩
          · rintro i x H' H'' hi ⟨bs, eb, rfl⟩ ⟨rfl, c, hc, rfl⟩
            refine ⟨rfl, _, rfl, _, _, rfl, rfl, _, upd_same, ?_, ?_⟩
            · rw [List.length_map, eb, List.length_map, List.length_take]
              exact Nat.lt_of_le_of_lt (Nat.min_le_left _ _) (Nat.lt_of_lt_of_le hi (by show z.length ≤ _; exact hz))
            · refine ⟨bs ++ [decide (c ∈ letters.cps.toList)], ?_, ?_⟩
              · have hc' : z.cps.toList[i]? = some c := by rw [Array.getElem?_toList]; exact hc
                rw [eb, List.take_succ, hc']
                simp
              · rw [upd_upd, List.map_append]
                rfl
          · rintro H' ⟨bs, eb, rfl⟩
            refine ⟨D, bs, rfl, SqL.of upd_same, ?_⟩
            have e3 : isNm (.str z) = bs.all id := by
              show (decide (1 ≤ z.length ∧ z.length ≤ 8) && _) = _
              rw [decide_eq_true (by omega), Bool.true_and, eb]
              have e4 : z.cps.toList.take z.cps.size = z.cps.toList := by rw [← Array.length_toList, List.take_length]
              rw [e4, List.all_map]
              rfl
            rw [e3] at k
            exact k _ (Same.upd hD)
      · have e3 : isNm (.str z) = false := by
          show (decide (1 ≤ z.length ∧ z.length ≤ 8) && _) = false
          rw [decide_eq_false (by omega), Bool.false_and]
        rw [e3] at k
        exact ⟨_, rfl, iteT (k H (Same.refl H))⟩
    | non => exact iteT (k H (Same.refl H))
    | bl _ => exact iteT (k H (Same.refl H))
    | int _ => exact iteT (k H (Same.refl H))
    | lst _ _ => exact iteT (k H (Same.refl H))
    | tup _ _ => exact iteT (k H (Same.refl H))
    | dct _ => exact iteT (k H (Same.refl H))
end
end Dear

namespace Dear
open PySem PySem.Spec PyProof.Rows L2
def spWant : Sp := fun vs H Q _ => ∃ (v : V) (d : D), vs = [v] ∧ Dt H v d ∧ Ok d ∧ ∀ H', Same H H' → Q (.bl (isWant d)) H'
/-- None of good ones, else refused with the number of the first that can't stand -/
def spLookW (C : Addr) : Sp := fun vs H Q E => ∃ (v : V) (d : D), vs = [v] ∧ Dt H v d ∧ Ok d ∧ (wantsBad d = none → ∀ H', Same H H' → Q .non H') ∧
  ∀ u, wantsBad d = some u → ∀ (dd : Addr) (H' : Hp), Same H H' → H dd = none → H' dd = some (.xd [("number", u)]) → E (.ref C) (some dd) H'
theorem isWant_len : ∀ {ds : List D}, ds.length ≠ 2 → isWant (.tup ds) = false
  | [], _ => rfl
  | [d], _ => by cases d <;> rfl
  | [_, _], h => absurd rfl h
  | d :: e :: _ :: _, _ => by cases d <;> cases e <;> rfl
def cntOk : D → Bool
  | .int c => decide (0 ≤ c ∧ c ≤ 1000000000)
  | _ => false
theorem isWant_two (a b : D) : isWant (.tup [a, b]) = (isNm a && (isInt b && cntOk b)) := by
  cases b <;> simp [isWant, isInt, cntOk]
/-- what a want is -/
theorem isWant_shape {d : D} (h : isWant d = true) : ∃ (z : Str) (c : Int), d = .tup [.str z, .int c] ∧ isNm (.str z) = true := by
  match d, h with
  | .tup [a, .int c], h =>
    have h : (isNm a && decide (0 ≤ c ∧ c ≤ 1000000000)) = true := h
    rw [Bool.and_eq_true] at h
    cases a with
    | str z => exact ⟨z, c, rfl, h.1⟩
    | _ => cases h.1
section
variable {P : Program} {w : World} {K : PySem.W.Frag} {mg : Str → Option Value} {base : Heap}
theorem o_is_want (T : Txt K mg) : OkF P w K mg base CX0 2 "is_want" ["thing"] spWant := by
  have o_is_whole := o_is_whole (P := P) (w := w) (base := base) T
  have o_is_name := o_is_name (P := P) (w := w) (base := base) T
  refine T.f_is_want.ok c_is_want (fun vs H Q E h => ?_) (fun f cdv A outer s H vs Q E hr h => ?_)
  · obtain ⟨v, n, rfl, _⟩ := h
    rfl
  · obtain ⟨v, d, rfl, hI, ok, k⟩ := h
    refine ⟨_, (pss_cons (ps_if (PW.pt (pw_or (pt_not (pt_val (pe_callB (call_isi_k K) (by rfl) T.b_isinstance (by decide +kernel) (pa_cons (pv 0) (pa_cons (pe_bltn (v := .ty "tuple") (by rfl) T.b_tuple (by decide +kernel) rfl) pa_nil))))) (pw_or (pt_cmpR op_ne (pe_callB (call_len_seq_k K) (by rfl) T.b_len PySem.boot_len (pa_cons (pv 0) pa_nil)) pe_int (nomark _)) (pw_or1 (pt_not (pt_val (pe_c o_is_name hr (pa_cons (pe_ix (ix_tup_k K) (pv 0) pe_int (fun _ _ => rfl)) pa_nil))))))))
(pss_one (ps_ret pe_bl))
pss_nil)
(pss_one (ps_ret (pe_and (pe_c o_is_whole hr (pa_cons (pe_ix (ix_tup_k K) (pv 0) pe_int (fun _ _ => rfl)) pa_nil)) (pe_one (pe_chain op_le op_le pe_int (pe_ix (ix_tup_k K) (pv 0) pe_int (fun _ _ => rfl)) (pe_gi T.g_GREATEST_COUNT))))))), ?_⟩
    refine ⟨_, rfl, _, _, _, _, _, rfl, .ty _, hI.ty, kit_ty (kd_tuple d), _, rfl, ?_⟩
    cases hI with
    | tup ha hall =>
      rename_i a xs ds
      refine iteF ⟨_, rfl, _, _, rfl, .inr (SqT.of ha), rfl, _, rfl, ?_⟩
      by_cases hl : xs.length = 2
      · have e2 : decide (V.int ((xs.length : Nat) : Int) = V.int 2) = true := by rw [hl]; decide
        rw [e2]
        refine iteF ?_
        match xs, ds, hall, hl with
        | [x, y], _, .cons (d := d1) h1 (.cons (d := d2) h2 .nil), _ =>
          have ok : Ok d1 ∧ Ok d2 ∧ True := ok
          rw [isWant_two] at k
          refine ⟨_, rfl, _, _, _, _, rfl, rfl, SqT.of ha, rfl, x, d1, rfl, h1, ok.1, fun H1 s1 => ⟨_, rfl, ?_⟩⟩
          cases e1 : isNm d1 with
          | false =>
            rw [e1] at k
            exact iteT (k _ s1)
          | true =>
            rw [e1] at k
            have h2' := h2.same s1
            refine iteF ⟨_, rfl, _, _, _, _, rfl, rfl, SqT.of (s1 _ _ ha), rfl, y, d2, rfl, h2', _, rfl, ?_⟩
            cases h2' with
            | int c =>
              refine iteT ⟨_, rfl, _, _, _, _, rfl, rfl, SqT.of (s1 _ _ ha), rfl, _, _, rfl, rfl, _, rfl, itd (fun c1 => ?_) fun c1 => ?_⟩
              · refine ⟨_, _, rfl, rfl, ?_⟩
                have fin := k _ s1
                have e3 : (true && (isInt (.int c) && decide (0 ≤ c ∧ c ≤ 1000000000))) = decide (c ≤ 1000000000) := by
                  show decide (0 ≤ c ∧ c ≤ 1000000000) = _
                  exact decide_eq_decide.mpr ⟨fun h => h.2, fun h => ⟨c1, h⟩⟩
                have fin : Q (.bl (true && (isInt (.int c) && decide (0 ≤ c ∧ c ≤ 1000000000)))) H1 := fin
                rw [e3] at fin
                exact fin
              · have fin : Q (.bl (true && (isInt (.int c) && decide (0 ≤ c ∧ c ≤ 1000000000)))) H1 := k _ s1
                rw [decide_eq_false fun z => c1 z.1] at fin
                exact fin
            | _ => exact iteF (k _ s1)
      · have e2 : decide (V.int ((xs.length : Nat) : Int) = V.int 2) = false := decide_eq_false fun z => hl (by injection z with z; omega)
        rw [e2]
        refine iteT ?_
        rw [isWant_len (by rw [← hall.length]; exact hl)] at k
        exact k H (Same.refl H)
    | _ => exact iteT (k H (Same.refl H))
/-- the names seen so far, as the dict holds them -/
def SeenK (seen : List Str) (kvs : List (Key × V)) : Prop := (∀ z : Str, (valV kvs (Sum.inr z)).isSome = decide (z ∈ seen)) ∧ kvs.length ≤ seen.length
theorem SeenK.put {seen : List Str} {kvs : List (Key × V)} {z : Str} {v : V} (h : SeenK seen kvs) : SeenK (seen ++ [z]) (putK kvs (Sum.inr z) v) := by
  constructor
  · intro y
    by_cases e : y = z
    · subst e
      rw [valV_put, if_pos rfl]
      simp
    · rw [valV_put, if_neg (by intro q; injection q with q; exact e q), h.1 y]
      refine decide_eq_decide.mpr ⟨fun q => List.mem_append_left _ q, fun q => ?_⟩
      rcases List.mem_append.mp q with q | q
      · exact q
      · exact absurd (by simpa using q) e
  · have := length_putK kvs (Sum.inr z) v
    rw [List.length_append]
    show _ ≤ _ + 1
    have h2 := h.2
    omega
theorem bad_step {d : D} {r : List D} {i : Nat} {seen : List Str} : badAt i seen (d :: r) = if isWant d && !decide (nameD d ∈ seen) then badAt (i + 1) (seen ++ [nameD d]) r else some (.int (i : Nat)) := rfl
theorem o_look_at_wants (T : Txt K mg) : OkF P w K mg base (L2.CX P w) 4 "look_at_wants" ["thing"] (spLookW T.A.NoWants) := by
  have o_is_want := o_is_want (P := P) (w := w) (base := base) T
  have oi_NoWants := oi_NoWants (P := P) (w := w) (base := base) T
  refine T.f_look_at_wants.okX c_look_at_wants (fun vs H Q E h => ?_) (fun f cdv A outer s H vs Q E hr h => ?_)
  · obtain ⟨v, d, rfl, _⟩ := h
    rfl
  · obtain ⟨v, d, rfl, hI, ok, k, kE⟩ := h
    refine ⟨_, (pss_cons (ps_if (PW.pt (pw_or (pt_not (pt_val (pe_callB (call_isi_k K) (by rfl) T.b_isinstance (by decide +kernel) (pa_cons (pv 0) (pa_cons (pe_bltn (v := .ty "list") (by rfl) T.b_list (by decide +kernel) rfl) pa_nil))))) (pw_or1 (pt_not (pt_chain op_le op_le pe_int (pe_callB (call_len_seq_k K) (by rfl) T.b_len PySem.boot_len (pa_cons (pv 0) pa_nil)) (pe_gi T.g_MOST_THINGS))))))
(pss_one (ps_raise rfl (takes_of rfl rfl rfl rfl) (pmk_i oi_NoWants hr (pa_cons pe_non pa_nil))))
pss_nil)
(pss_cons (ps_set (i := 1) c_look_at_wants.nd rfl (Or.inl rfl) pe_dnewK)
(pss_one (ps_for (passes_of rfl) rfl (pi_enum (by rfl) T.b_enumerate (pa_cons (pv 0) pa_nil)) (pg_tup_k K (n := 2) rfl (pgs_cons (pg_name (i := 2) c_look_at_wants.nd rfl (Or.inl rfl)) (pgs_cons (pg_name (i := 3) c_look_at_wants.nd rfl (Or.inl rfl)) pgs_nil)))
(pss_cons (ps_if (PW.pt (pw_or (pt_not (pt_val (pe_c o_is_want hr (pa_cons (pv 3) pa_nil)))) (pw_or1 (pt_cmp (pc_din (u1 hr.units) (pe_ix (ix_tup_k K) (pv 3) pe_int (fun _ _ => rfl)) (pv 1))))))
(pss_one (ps_raise rfl (takes_of rfl rfl rfl rfl) (pmk_i oi_NoWants hr (pa_cons (pv 2) pa_nil))))
pss_nil)
(pss_one (ps_dput (u1 hr.units) (pv 1) (pe_ix (ix_tup_k K) (pv 3) pe_int (fun _ _ => rfl)) pe_bl rfl))))))), ?_⟩
    refine ⟨_, rfl, _, _, _, _, _, rfl, .ty _, hI.ty, kit_ty (kd_list d), _, rfl, ?_⟩
    have no : wantsBad d = some .non → ∀ dd : Addr, H dd = none → E (.ref T.A.NoWants) (some dd) (upd H dd (.xd [("number", .non)])) := fun e dd hd => kE _ e dd _ (Same.upd hd) hd upd_same
    cases hI with
    | lst ha hall =>
      rename_i a xs ds
      have hl := hall.length
      refine iteF ⟨_, rfl, _, _, rfl, .inl (SqL.of ha), _, _, rfl, rfl, _, rfl, itd (fun c1 => ?_) fun c1 => ?_⟩
      · refine ⟨_, _, rfl, rfl, _, rfl, itnd (fun c2 => ?_) fun c2 => ?_⟩
        · exact mkx T.X_NoWants (.inl rfl) (no (if_neg (by omega)))
        have e0 : wantsBad (.lst ds) = badAt 0 [] ds := if_pos (by omega)
        rw [e0] at k kE
        refine fun nd hn => ?_
        have s1 := Same.upd (o := .dK []) hn
        have e1 : (upd H nd (.dK [])) nd = some (.dK []) := upd_same
        generalize upd H nd (.dK []) = H1 at s1 e1 ⊢
        refine ⟨_, rfl, a, xs, rfl, SqL.of (s1 _ _ ha), for_it walk_enum (fun i σ H' => Same H H' ∧ ∃ (seen : List Str) (kvs : List (Key × V)) (v2 v3 : Option V), σ = [some (.ref a), some (.ref nd), v2, v3] ∧ H' nd = some (.dK kvs) ∧ SeenK seen kvs ∧ seen.length = i ∧ badAt 0 [] ds = badAt i seen (ds.drop i))
          ⟨s1, [], [], _, _, rfl, e1, ⟨fun z => rfl, Nat.le_refl _⟩, rfl, rfl⟩ (fun i σ H' _ h => SqL.of (h.1 _ _ ha)) ?_ ?_⟩
        · rintro i x σ H' H'' hi ⟨s2, seen, kvs, v2, v3, rfl, hk, sk, sl, hb⟩ ⟨tp, y1, y2, rfl, htp, rfl, hy1, hy2⟩
          injection hy1 with hy1
          subst hy1
          have i20 : i < 20 := by omega
          obtain ⟨d1, hd1, hD1⟩ := hall.get hy2
          have okd : Ok d1 := OkAll.mem ok (List.mem_of_getElem? hd1)
          have hdr : ds.drop i = d1 :: ds.drop (i + 1) := by
            obtain ⟨hlt, e1⟩ := List.getElem?_eq_some_iff.mp hd1
            rw [List.drop_eq_getElem_cons hlt, e1]
          rw [hdr, bad_step] at hb
          have s3 := Same.upd (o := .tup [V.int (i : Nat), y2]) htp
          have s03 := s2.trans s3
          refine ⟨tp, _, rfl, SqT.of upd_same, rfl, _, _, rfl, _, _, rfl, rfl, ?_⟩
          refine ⟨_, rfl, y2, d1, rfl, hD1.same s03, okd, fun H4 s4 => ⟨_, rfl, ?_⟩⟩
          have s04 := s03.trans s4
          have bad : (isWant d1 && !decide (nameD d1 ∈ seen)) = false → ∀ dd : Addr, H4 dd = none → E (.ref T.A.NoWants) (some dd) (upd H4 dd (.xd [("number", .int (i : Nat))])) := fun e dd hd => by
            rw [e] at hb
            have hb : badAt 0 [] ds = some (.int (i : Nat)) := hb
            exact kE _ hb dd _ (s04.trans (Same.upd hd)) (by
              cases q : H dd with
              | none => rfl
              | some o =>
                rw [s04 _ _ q] at hd
                cases hd) upd_same
          cases e : isWant d1 with
          | false =>
            refine iteT ⟨_, rfl, mkx T.X_NoWants (.inr (.inr ⟨_, rfl, ?_⟩)) (bad (by rw [e]; rfl))⟩
            exact Nat.lt_of_lt_of_le (show ((i : Nat) : Int).natAbs < 2 ^ 20 by omega) (by decide)
          | true =>
            obtain ⟨z, c, rfl, hz⟩ := isWant_shape e
            refine iteF ?_
            have hy4 := (hD1.same s04)
            cases hy4 with
            | tup hat hal =>
              cases hal with
              | cons h1 hal =>
                cases h1
                rename_i vs9
                obtain ⟨v9, rfl⟩ : ∃ v9, vs9 = [v9] := by
                  cases hal with
                  | cons h2 hal =>
                    cases hal
                    exact ⟨_, rfl⟩
                have hk4 := s4 _ _ (s3 _ _ hk)
                have vz : (valV kvs (Sum.inr z)).isSome = decide (z ∈ seen) := sk.1 z
                refine ⟨_, rfl, _, _, _, V.str z, rfl, rfl, SqT.of hat, rfl, _, rfl, nd, _, rfl, .inl ⟨_, Sum.inr z, .of hk4, rfl, rfl⟩, ?_⟩
                have bad : decide (z ∈ seen) = true → ∀ dd : Addr, H4 dd = none → E (.ref T.A.NoWants) (some dd) (upd H4 dd (.xd [("number", .int (i : Nat))])) := fun e9 => bad (by
                  rw [e]
                  show (true && !decide (z ∈ seen)) = false
                  rw [e9]
                  rfl)
                have go : decide (z ∈ seen) = false → badAt 0 [] ds = badAt (i + 1) (seen ++ [z]) (ds.drop (i + 1)) := fun e9 => by
                  rw [hb, e]
                  show (if (true && !decide (z ∈ seen)) = true then _ else _) = _
                  rw [e9]
                  rfl
                cases ev : valV kvs (Sum.inr z) with
                | some u =>
                  rw [ev] at vz
                  refine ⟨_, rfl, iteT ⟨_, rfl, mkx T.X_NoWants (.inr (.inr ⟨_, rfl, ?_⟩)) (bad vz.symm)⟩⟩
                  exact Nat.lt_of_lt_of_le (show ((i : Nat) : Int).natAbs < 2 ^ 20 by omega) (by decide)
                | none =>
                  rw [ev] at vz
                  refine ⟨_, rfl, iteF ⟨_, rfl, _, rfl, _, _, _, V.str z, rfl, rfl, SqT.of hat, rfl, nd, _, rfl, DPut.k (k := Sum.inr z) hk4 (small1000 (by have := sk.2; omega)), ?_, seen ++ [z], putK kvs (Sum.inr z) (.bl true), _, _, rfl, upd_same, sk.put, ?_, go vz.symm⟩⟩
                  · intro b o hbo
                    rw [upd_ne (ne_of_none hbo hn)]
                    exact s04 _ _ hbo
                  · rw [List.length_append, sl]
                    rfl
        · rintro σ H' ⟨s2, seen, kvs, v2, v3, rfl, hk, sk, sl, hb⟩
          rw [List.drop_of_length_le (by omega)] at hb
          exact k hb H' s2
      · exact ⟨_, rfl, iteT (mkx T.X_NoWants (.inl rfl) (no (if_neg (by omega))))⟩
    | _ => exact iteT (mkx T.X_NoWants (.inl rfl) (no rfl))
end
end Dear

namespace Dear
open PySem PySem.Spec PyProof.Rows L2
/-! ### author C's draws -/
def spCell (K : PySem.W.Frag) : Sp := fun vs H Q _ => ∃ (a : Addr) (ns : List Int) (k : Int), vs = [.ref a, .int k] ∧ SqL K H a (ns.map V.int) ∧ 0 ≤ k ∧ ∀ z : Int, Q (.int z) H
/-- drawn numbers, each below its size -/
structure Drawn (ss rs : List Int) : Prop where
  len : rs.length = ss.length
  lt : ∀ (i : Nat) (r m : Int), rs[i]? = some r → ss[i]? = some m → 0 ≤ r ∧ r < m
theorem Drawn.at {ss rs : List Int} (h : Drawn ss rs) {i : Nat} {m : Int} (e : ss[i]? = some m) : ∃ r, rs[i]? = some r ∧ 0 ≤ r ∧ r < m := by
  have hi : i < rs.length := by
    rw [h.len]
    exact (List.getElem?_eq_some_iff.mp e).1
  have e1 : rs[i]? = some rs[i] := List.getElem?_eq_getElem hi
  exact ⟨_, e1, h.lt i _ _ e1 e⟩
theorem Drawn.one {m : Int} {rs : List Int} (h : Drawn [m] rs) : ∃ r, rs = [r] ∧ 0 ≤ r ∧ r < m := by
  match rs, h.len with
  | [r], _ => exact ⟨r, rfl, h.lt 0 r m rfl rfl⟩
def spDraws (K : PySem.W.Frag) : Sp := fun vs H Q _ => ∃ (z k : Int) (p : Addr) (ss : List Int), vs = [.int z, .int k, .ref p] ∧ SqL K H p (ss.map V.int) ∧ ss.length ≤ 100 ∧ (∀ m ∈ ss, 0 < m ∧ m ≤ 1000000000) ∧
  ∀ (q : Addr) (rs : List Int) (H' : Hp), H q = none → Same H H' → H' q = some (.lst (rs.map V.int)) → Drawn ss rs → Q (.ref q) H'
section
variable {P : Program} {w : World} {K : PySem.W.Frag} {mg : Str → Option Value} {base : Heap}
theorem o__law_cell (T : Txt K mg) : OkF P w K mg base CX0 1 "_law_cell" ["_law_script", "_law_k"] (spCell K) := by
  refine T.f__law_cell.ok c__law_cell (fun vs H Q E h => ?_) (fun f cdv A outer s H vs Q E hr h => ?_)
  · obtain ⟨a, ns, k, rfl, _⟩ := h
    rfl
  · obtain ⟨a, ns, k, rfl, hS, k0, q⟩ := h
    refine ⟨_, (pss_cons (ps_if (pt_cmpR op_lt (pv 1) (pe_callB (call_len_seq_k K) (by rfl) T.b_len PySem.boot_len (pa_cons (pv 0) pa_nil)) (nomark _))
(pss_one (ps_ret (pe_ix (ix_list_k K) (pv 0) (pv 1) (fun _ _ => rfl))))
pss_nil)
(pss_one (ps_ret pe_int))), ?_⟩
    refine ⟨_, rfl, _, rfl, _, _, rfl, .inl hS, _, _, rfl, rfl, _, rfl, itd (fun c => ?_) fun _ => q 0⟩
    obtain ⟨x, hx, hm, _⟩ := at_lt k0 c
    obtain ⟨z, _, rfl⟩ := List.mem_map.mp hm
    exact ⟨_, rfl, _, rfl, _, _, _, _, rfl, rfl, hS, hx, q z⟩
theorem o__law_draws (T : Txt K mg) : OkF P w K mg base CX0 1 "_law_draws" ["_law_cell_here", "_law_k", "_law_sizes"] (spDraws K) := by
  refine T.f__law_draws.ok c__law_draws (fun vs H Q E h => ?_) (fun f cdv A outer s H vs Q E hr h => ?_)
  · obtain ⟨z, k, p, ss, rfl, _⟩ := h
    rfl
  · obtain ⟨z, k, p, ss, rfl, hS, l100, hm, q⟩ := h
    refine ⟨_, (pss_cons (ps_set (i := 3) c__law_draws.nd rfl (Or.inl rfl) (pe_callB call_abs (by rfl) T.b_abs (by decide +kernel) (pa_cons (pv 0) pa_nil)))
(pss_cons (ps_set (i := 4) c__law_draws.nd rfl (Or.inl rfl) (pe_cmpR op_ge (pv 3) (pe_op op_pow pe_int pe_int) (nomark _)))
(pss_cons (ps_set (i := 5) c__law_draws.nd rfl (Or.inl rfl) (pe_op op_mod (pe_op op_mul (pe_op op_add (pe_op op_add (pe_op op_mod (pv 3) pe_int) (pe_op op_mul pe_int (pv 1))) pe_int) pe_int) pe_int))
(pss_cons (ps_set (i := 6) c__law_draws.nd rfl (Or.inl rfl) (pe_lst pa_nil))
(pss_cons (ps_for PassesOwn.never rfl (pi_enum (by rfl) T.b_enumerate (pa_cons (pv 2) pa_nil)) (pg_tup_k K (n := 2) rfl (pgs_cons (pg_name (i := 7) c__law_draws.nd rfl (Or.inl rfl)) (pgs_cons (pg_name (i := 8) c__law_draws.nd rfl (Or.inl rfl)) pgs_nil)))
(pss_one (ps_if (pt_val (pv 4))
(pss_cons (ps_expr (pe_bm PySem.F.plainAttrs_list PySem.F.slot_list_append PySem.F.type_list_append mt_append (pv 6) (pa_cons (pe_op op_mod (pv 3) (pv 8)) pa_nil)))
(pss_one (ps_set (i := 3) c__law_draws.nd rfl (Or.inl rfl) (pe_op op_fdivW (pv 3) (pv 8)))))
(pss_cons (ps_set (i := 5) c__law_draws.nd rfl (Or.inl rfl) (pe_op op_mod (pe_op op_add (pe_op op_add (pe_op op_mul (pv 5) (pv 5)) (pe_op op_mul pe_int (pe_op op_add (pv 1) (pv 7)))) pe_int) pe_int))
(pss_one (ps_expr (pe_bm PySem.F.plainAttrs_list PySem.F.slot_list_append PySem.F.type_list_append mt_append (pv 6) (pa_cons (pe_op op_mod (pe_op op_fdivW (pv 5) pe_int) (pv 8)) pa_nil))))))))
(pss_one (ps_ret (pv 6)))))))), ?_⟩
    refine ⟨_, rfl, _, rfl, ?_⟩
    rw [abs_if]
    have n0 : (0 : Int) ≤ (z.natAbs : Int) := by omega
    generalize (z.natAbs : Int) = n at n0 ⊢
    refine ⟨_, rfl, _, _, rfl, rfl, ⟨by decide, by decide, by decide⟩, _, _, rfl, rfl, ?_⟩
    refine ⟨_, rfl, _, _, rfl, rfl, (by show (0 : Int) < 1000000007; decide), _, rfl, _, _, rfl, rfl, .inl ⟨by decide, by decide⟩, _, _, rfl, rfl, _, _, rfl, rfl, _, _, rfl, rfl, .inr ⟨by decide, by decide⟩, _, _, rfl, rfl, (by show (0 : Int) < 2147483629; decide), ?_⟩
    have b0 : 0 ≤ ((n % 1000000007 + 7919 * k + 1) * 48271) % 2147483629 := Int.emod_nonneg _ (by decide)
    have b1 : ((n % 1000000007 + 7919 * k + 1) * 48271) % 2147483629 < 2147483629 := Int.emod_lt_of_pos _ (by decide)
    refine ⟨(by show 0 ≤ sizeLine; decide), fun qa hq => ?_⟩
    have u0 := Same.upd (o := .lst []) hq
    refine ⟨_, rfl, p, _, rfl, u0.seq hS, for_it walk_enum (fun i σ H' => Same H H' ∧ ∃ (n x : Int) (g : Bool) (rs : List Int) (v7 v8 : Option V), σ = [some (.int z), some (.int k), some (.ref p), some (.int n), some (.bl g), some (.int x), some (.ref qa), v7, v8] ∧ 0 ≤ n ∧ 0 ≤ x ∧ x < 2147483629 ∧ H' qa = some (.lst (rs.map V.int)) ∧ Drawn (ss.take i) rs)
      ⟨u0, n, _, _, [], _, _, rfl, n0, b0, b1, upd_same, ⟨by simp, fun i r m h => by simp at h⟩⟩ (fun i σ H' _ h => h.1.seq hS) ?_ ?_⟩
    · rintro i y σ H' H'' hi ⟨s2, n, x, g, rs, v7, v8, rfl, n0, b0, b1, hrs, dr⟩ ⟨tp, y1, y2, rfl, htp, rfl, hy1, hy2⟩
      injection hy1 with hy1
      subst hy1
      have hy2 : (ss.map V.int)[i]? = some y2 := hy2
      rw [List.getElem?_map] at hy2
      obtain ⟨m, hm1, rfl⟩ : ∃ m, ss[i]? = some m ∧ y2 = .int m := by
        cases q9 : ss[i]? with
        | none => rw [q9] at hy2; cases hy2
        | some c => rw [q9] at hy2; exact ⟨c, rfl, (Option.some.inj hy2).symm⟩
      obtain ⟨m0, m9⟩ := hm m (List.mem_of_getElem? hm1)
      have i100 : i < 100 := Nat.lt_of_lt_of_le (List.getElem?_eq_some_iff.mp hm1).1 l100
      have lr : rs.length = i := by
        rw [dr.len, List.length_take]
        have := (List.getElem?_eq_some_iff.mp hm1).1
        omega
      have s3 := Same.upd (o := .tup [V.int (i : Nat), V.int m]) htp
      have s03 := s2.trans s3
      have hrs3 := s3 _ _ hrs
      have dr' : ∀ r : Int, 0 ≤ r → r < m → Drawn (ss.take (i + 1)) (rs ++ [r]) := fun r r0 r1 => by
        rw [take_more hm1]
        refine ⟨by rw [List.length_append, List.length_append, dr.len]; rfl, fun j a b ha hb => ?_⟩
        by_cases hj : j < i
        · rw [List.getElem?_append_left (by omega)] at ha
          rw [List.getElem?_append_left (by rw [← dr.len]; omega)] at hb
          exact dr.lt j a b ha hb
        · have hj : j = i := by
            have h1 := (List.getElem?_eq_some_iff.mp ha).1
            rw [List.length_append] at h1
            have h1 : j < rs.length + 1 := h1
            omega
          subst hj
          rw [List.getElem?_append_right (by omega), lr, Nat.sub_self] at ha
          rw [List.getElem?_append_right (by rw [← dr.len]; omega), ← dr.len, lr, Nat.sub_self] at hb
          injection ha with ha
          injection hb with hb
          subst ha
          subst hb
          exact ⟨r0, r1⟩
      have fin : ∀ r : Int, (upd (upd H' tp (.tup [V.int (i : Nat), V.int m])) qa (.lst (rs.map V.int ++ [V.int r]))) qa = some (.lst ((rs ++ [r]).map V.int)) := fun r => by
        rw [upd_same, List.map_append]
        rfl
      have sfin : ∀ o : HO, Same H (upd (upd H' tp (.tup [V.int (i : Nat), V.int m])) qa o) := fun o => by
        intro b o' hb
        rw [upd_ne (ne_of_none hb hq)]
        exact s03 _ _ hb
      have sz : (rs.map V.int).length < sizeLine := by
        rw [List.length_map]
        exact small1000 (by omega)
      refine ⟨tp, _, rfl, SqT.of upd_same, rfl, _, _, rfl, _, _, rfl, rfl, ?_⟩
      refine ⟨_, rfl, _, rfl, itb (fun e => ?_) fun e => ?_⟩
      · refine ⟨_, rfl, .inl ⟨rfl, _, SqL.of hrs3⟩, _, rfl, _, rfl, _, _, rfl, rfl, m0, qa, _, _, rfl, rfl, hrs3, sz, ?_⟩
        refine ⟨_, rfl, _, rfl, _, _, rfl, rfl, ⟨m0, log_le 1000000000 (by omega)⟩, sfin _, _, x, g, rs ++ [n % m], _, _, rfl, Int.ediv_nonneg n0 (by omega), b0, b1, fin _, dr' _ (Int.emod_nonneg _ (by omega)) (Int.emod_lt_of_pos _ m0)⟩
      · refine ⟨_, rfl, _, rfl, _, _, rfl, rfl, .inl ⟨by omega, by omega⟩, _, rfl, _, rfl, _, _, rfl, rfl, _, _, rfl, rfl, .inl ⟨by decide, by decide⟩, _, _, rfl, rfl, _, _, rfl, rfl, _, _, rfl, rfl, (by show (0 : Int) < 2147483587; decide), ?_⟩
        have c0 : 0 ≤ (x * x + 104729 * (k + (i : Int)) + 11) % 2147483587 := Int.emod_nonneg _ (by decide)
        have c1 : (x * x + 104729 * (k + (i : Int)) + 11) % 2147483587 < 2147483587 := Int.emod_lt_of_pos _ (by decide)
        refine ⟨_, rfl, .inl ⟨rfl, _, SqL.of hrs3⟩, _, rfl, _, _, rfl, rfl, ⟨by decide, by decide⟩, _, rfl, _, _, rfl, rfl, m0, qa, _, _, rfl, rfl, hrs3, sz, ?_⟩
        exact ⟨sfin _, n, _, g, rs ++ [(x * x + 104729 * (k + (i : Int)) + 11) % 2147483587 / 16 % m], _, _, rfl, n0, c0, by omega, fin _, dr' _ (Int.emod_nonneg _ (by omega)) (Int.emod_lt_of_pos _ m0)⟩
    · rintro σ H' ⟨s2, n, x, g, rs, v7, v8, rfl, n0, b0, b1, hrs, dr⟩
      rw [List.length_map, List.take_length] at dr
      exact ⟨_, rfl, q qa rs H' hq s2 hrs dr⟩
end
end Dear

namespace Dear
open PySem PySem.Spec PyProof.Rows L2
/-! ### orders of things -/
def vsN (is : List Nat) : List V := is.map fun i => V.int (i : Nat)
def ordD (is : List Nat) : D := .lst (is.map fun i => D.int (i : Nat))
/-- an order of so many things -/
def OrdOk (n : Nat) (e : D) : Prop := ∃ is : List Nat, e = ordD is ∧ is.Perm (List.range n)
theorem vsN_len (is : List Nat) : (vsN is).length = is.length := List.length_map ..
theorem vsN_int (is : List Nat) : vsN is = (is.map fun i => ((i : Nat) : Int)).map V.int := by
  unfold vsN
  rw [List.map_map]
  rfl
theorem vsN_get {is : List Nat} {k o : Nat} (h : is[k]? = some o) : (vsN is)[k]? = some (.int (o : Nat)) := by
  unfold vsN
  rw [List.getElem?_map, h]
  rfl
theorem vsN_inv {is : List Nat} {k : Nat} {v : V} (h : (vsN is)[k]? = some v) : ∃ o : Nat, is[k]? = some o ∧ v = .int (o : Nat) := by
  unfold vsN at h
  rw [List.getElem?_map] at h
  cases e : is[k]? with
  | none => rw [e] at h; cases h
  | some o => rw [e] at h; exact ⟨o, rfl, (Option.some.inj h).symm⟩
theorem dt_vsN {H : Hp} : ∀ is : List Nat, DtAll H (vsN is) (is.map fun i => D.int (i : Nat))
  | [] => .nil
  | _ :: is => .cons (.int _) (dt_vsN is)
theorem DtAll.ints {H : Hp} : ∀ {xs : List V} {ds : List D}, DtAll H xs ds → ds.all isInt = true → ∃ ns : List Int, ds = ns.map D.int ∧ xs = ns.map V.int
  | _, _, .nil, _ => ⟨[], rfl, rfl⟩
  | _, _, .cons (d := d) h1 h2, h => by
    rw [List.all_cons, Bool.and_eq_true] at h
    obtain ⟨ns, e1, e2⟩ := DtAll.ints h2 h.2
    cases h1 with
    | int i => exact ⟨i :: ns, by rw [e1]; rfl, by rw [e2]; rfl⟩
    | _ => cases h.1
theorem DtAll.nats {H : Hp} : ∀ {xs : List V} {is : List Nat}, DtAll H xs (is.map fun i => D.int (i : Nat)) → xs = vsN is
  | _, [], .nil => rfl
  | _, i :: is, .cons h t => by
    have h : Dt H _ (D.int ((i : Nat) : Int)) := h
    cases h
    rw [DtAll.nats t]
    rfl
theorem ord_at {H : Hp} {v : V} {is : List Nat} (h : Dt H v (ordD is)) : ∃ b : Addr, v = .ref b ∧ H b = some (.lst (vsN is)) := by
  unfold ordD at h
  cases h with
  | lst hb hall =>
    rw [hall.nats] at hb
    exact ⟨_, rfl, hb⟩
theorem ord_dt {H : Hp} {b : Addr} {is : List Nat} (h : H b = some (.lst (vsN is))) : Dt H (.ref b) (ordD is) := .lst h (dt_vsN is)
theorem DtAll.ints' {H : Hp} : ∀ {xs : List V} {ns : List Int}, DtAll H xs (ns.map D.int) → xs = ns.map V.int
  | _, [], .nil => rfl
  | _, _ :: _, .cons (.int i) t => by
    rw [DtAll.ints' t]
    rfl
theorem dt_ints {H : Hp} : ∀ ns : List Int, DtAll H (ns.map V.int) (ns.map D.int)
  | [] => .nil
  | _ :: ns => .cons (.int _) (dt_ints ns)
theorem ordD_int (is : List Nat) : ordD is = .lst ((is.map fun i => ((i : Nat) : Int)).map D.int) := by
  unfold ordD
  rw [List.map_map]
  rfl
theorem ints_facts {ns : List Int} (h : ∀ n ∈ ns, Ok (.int n)) : Ok (.lst (ns.map D.int)) ∧ NoD (.lst (ns.map D.int)) ∧ dep (.lst (ns.map D.int)) ≤ 64 := by
  refine ⟨?_, ?_, ?_⟩
  · show OkAll (ns.map D.int)
    induction ns with
    | nil => trivial
    | cons w r ih => exact ⟨h w List.mem_cons_self, ih fun x hx => h x (List.mem_cons_of_mem _ hx)⟩
  · refine noAll_of fun d hd => ?_
    obtain ⟨w, hw, rfl⟩ := List.mem_map.mp hd
    trivial
  · have := depAll_le (ds := ns.map D.int) (n := 0) fun d hd => by
      obtain ⟨w, hw, rfl⟩ := List.mem_map.mp hd
      exact Nat.le_refl _
    show depAll (ns.map D.int) + 1 ≤ 64
    omega
theorem eqv_ints : ∀ a b : List Int, PyData.eqv (py (.lst (a.map D.int))) (py (.lst (b.map D.int))) = decide (a = b) := by
  have key : ∀ a b : List Int, PyData.eqvAll (pyAll (a.map D.int)) (pyAll (b.map D.int)) = decide (a = b) := by
    intro a
    induction a with
    | nil =>
      intro b
      cases b with
      | nil => rw [decide_eq_true rfl]; simp [PyData.eqvAll, pyAll]
      | cons y b => rw [decide_eq_false (by simp)]; simp [PyData.eqvAll, pyAll]
    | cons x a ih =>
      intro b
      cases b with
      | nil => rw [decide_eq_false (by simp)]; simp [PyData.eqvAll, pyAll]
      | cons y b =>
        have e : PyData.eqvAll (pyAll ((x :: a).map D.int)) (pyAll ((y :: b).map D.int)) = (PyData.eqv (.int x) (.int y) && PyData.eqvAll (pyAll (a.map D.int)) (pyAll (b.map D.int))) := by
          simp [PyData.eqvAll, pyAll, py]
        rw [e, ih b]
        have e2 : PyData.eqv (.int x) (.int y) = decide (x = y) := by
          simp only [PyData.eqv]
          by_cases h : x = y
          · rw [h, decide_eq_true rfl]
            simp
          · rw [decide_eq_false h]
            exact beq_eq_false_iff_ne.mpr h
        rw [e2]
        by_cases h : x = y <;> by_cases h' : a = b <;> simp [h, h']
  intro a b
  have e : PyData.eqv (py (.lst (a.map D.int))) (py (.lst (b.map D.int))) = PyData.eqvAll (pyAll (a.map D.int)) (pyAll (b.map D.int)) := by
    simp only [py, PyData.eqv]
  rw [e, key]
/-- the numbers ahead of n -/
def rgI (n : Nat) : List Int := (List.range n).map fun i => ((i : Nat) : Int)
theorem rgV_0 (n : Nat) : rgV 0 (n : Int) = (rgI n).map V.int := by
  unfold rgV rgI
  rw [List.map_map, show ((n : Int) - 0).toNat = n by omega]
  refine List.map_congr_left fun i _ => ?_
  show V.int (0 + (i : Int)) = V.int (i : Nat)
  rw [Int.zero_add]
theorem rgI_sorted (n : Nat) : (rgI n).Pairwise (· ≤ ·) := by
  unfold rgI
  rw [List.pairwise_map]
  refine List.Pairwise.imp (fun h => ?_) (List.pairwise_lt_range (n := n))
  omega
theorem ordOk_ints {n : Nat} {ns ns' : List Int} (p : ns'.Perm ns) (s : ns'.Pairwise (· ≤ ·)) : OrdOk n (.lst (ns.map D.int)) ↔ ns' = rgI n := by
  constructor
  · rintro ⟨is, e, pm⟩
    rw [ordD_int] at e
    injection e with e
    have e : ns = is.map fun i => ((i : Nat) : Int) := by
      have inj : ∀ {a b : List Int}, a.map D.int = b.map D.int → a = b := by
        intro a
        induction a with
        | nil => intro b h; cases b with
          | nil => rfl
          | cons _ _ => cases h
        | cons x a ih => intro b h; cases b with
          | nil => cases h
          | cons y b =>
            rw [List.map_cons, List.map_cons] at h
            injection h with h1 h2
            injection h1 with h1
            rw [h1, ih h2]
      exact inj e
    subst e
    exact List.Perm.eq_of_pairwise (fun _ _ _ _ h1 h2 => Int.le_antisymm h1 h2) s (rgI_sorted n) (p.trans (pm.map _))
  · intro e
    subst e
    have h : (rgI n).map Int.toNat = List.range n := by
      unfold rgI
      rw [List.map_map]
      have : (Int.toNat ∘ fun i : Nat => (i : Int)) = id := by
        funext i
        rfl
      rw [this, List.map_id]
    refine ⟨ns.map Int.toNat, ?_, ?_⟩
    · have : ∀ x ∈ ns, ((fun i : Nat => (i : Int)) ∘ Int.toNat) x = x := fun x hx => by
        have hx : x ∈ rgI n := p.mem_iff.mpr hx
        obtain ⟨i, _, rfl⟩ := List.mem_map.mp hx
        rfl
      have e : (ns.map Int.toNat).map (fun i => ((i : Nat) : Int)) = ns := by
        rw [List.map_map, List.map_congr_left this, List.map_id']
      rw [ordD_int, e]
    · rw [← h]
      exact (p.map _).symm
theorem ordOk_all {n : Nat} {ds : List D} (h : OrdOk n (.lst ds)) : ds.all isInt = true := by
  obtain ⟨is, e, _⟩ := h
  injection e with e
  subst e
  rw [List.all_eq_true]
  intro d hd
  obtain ⟨i, _, rfl⟩ := List.mem_map.mp hd
  rfl
/-- at the place is[k] what stood at k -/
structure PutSo (xs : List V) (is : List Nat) (ys : List V) : Prop where
  len : ys.length = xs.length
  put : ∀ k o : Nat, is[k]? = some o → ys[o]? = xs[k]?
def shortL : D → Prop
  | .lst ds => ds.length < 64
  | _ => True
def spOrder (C : Addr) : Sp := fun vs H Q E => ∃ (n : Nat) (v : V) (e : D), vs = [.int (n : Nat), v] ∧ Dt H v e ∧ Ok e ∧ shortL e ∧ n ≤ 1000 ∧ (OrdOk n e → ∀ H', Same H H' → Q .non H') ∧ (¬ OrdOk n e → ∀ H', Same H H' → E (.ref C) none H')
def spPutSo : Sp := fun vs H Q _ => ∃ (a b : Addr) (xs : List V) (is : List Nat), vs = [.ref a, .ref b] ∧ H a = some (.lst xs) ∧ H b = some (.lst (vsN is)) ∧ is.Perm (List.range xs.length) ∧
  ∀ (q : Addr) (ys : List V) (H' : Hp), H q = none → Same H H' → H' q = some (.lst ys) → PutSo xs is ys → Q (.ref q) H'
/-- of a list and an order of it -/
def PutIn (H : Hp) (a : Addr) (e : D) (C : Addr) (Q : VK) (E : XK) : Prop := ∃ xs : List V, H a = some (.lst xs) ∧ xs.length ≤ 1000 ∧ (¬ OrdOk xs.length e → ∀ H', Same H H' → E (.ref C) none H') ∧
  ∀ is : List Nat, e = ordD is → is.Perm (List.range xs.length) → ∀ (q : Addr) (ys : List V) (H' : Hp), H q = none → Same H H' → H' q = some (.lst ys) → PutSo xs is ys → Q (.ref q) H'
def spPutBook (C : Addr) : Sp := fun vs H Q E => ∃ (a : Addr) (v : V) (e : D), vs = [.ref a, v] ∧ Dt H v e ∧ Ok e ∧ shortL e ∧ PutIn H a e C Q E
def spPutWants (W C : Addr) : Sp := fun vs H Q E => ∃ (u v : V) (d e : D), vs = [u, v] ∧ Dt H u d ∧ Ok d ∧ Dt H v e ∧ Ok e ∧ shortL e ∧
  (∀ m, wantsBad d = some m → ∀ (dd : Addr) (H' : Hp), Same H H' → H dd = none → H' dd = some (.xd [("number", m)]) → E (.ref W) (some dd) H') ∧
  (wantsBad d = none → ∀ a, u = .ref a → PutIn H a e C Q E)
end Dear

namespace Dear
open PySem PySem.Spec PyProof.Rows L2
section
variable {P : Program} {w : World} {K : PySem.W.Frag} {mg : Str → Option Value} {base : Heap}
theorem o_look_at_order (T : Txt K mg) : OkF P w K mg base (L2.CX P w) 3 "look_at_order" ["many", "order"] (spOrder T.A.NoTurn) := by
  have o_is_whole := o_is_whole (P := P) (w := w) (base := base) T
  refine T.f_look_at_order.okX c_look_at_order (fun vs H Q E h => ?_) (fun f cdv A outer s H vs Q E hr h => ?_)
  · obtain ⟨n, v, e, rfl, _⟩ := h
    rfl
  · obtain ⟨n, v, e, rfl, hv, oke, sh, n9, k, kE⟩ := h
    refine ⟨_, (pss_cons (ps_if (PW.pt (pw_or (pt_not (pt_val (pe_callB (call_isi_k K) (by rfl) T.b_isinstance (by decide +kernel) (pa_cons (pv 1) (pa_cons (pe_bltn (v := .ty "list") (by rfl) T.b_list (by decide +kernel) rfl) pa_nil))))) (pw_or1 (pt_not (pt_val (pe_callB (cr_all_k K rfl) (by rfl) T.b_all (by decide +kernel) (pa_cons (pe_lc (own := [("one", 2)]) (g := gName 2) (tt := tYes) (by rfl) c_look_at_order.nd (pi_list_k K (pv 1)) (blkOk_by (own := [("one", 2)]) (N := n_look_at_order) (sc := defScope s_look_at_order) (by decide +kernel)) (fun _ _ _ _ _ => (pg_name (i := 2) c_look_at_order.nd rfl (Or.inl rfl))) (fun _ _ _ _ _ => pts_nil) (fun _ _ _ _ _ => (pe_c o_is_whole hr (pa_cons (pv 2) pa_nil)))) pa_nil)))))))
(pss_one (ps_raise rfl (takes_of rfl rfl rfl rfl) (pmk_own PySem.F.excBase_ValueError T.X_NoTurn.x T.X_NoTurn.g T.X_NoTurn.k (raises_own T.X_NoTurn.b T.X_NoTurn.t) rfl)))
pss_nil)
(pss_one (ps_if (pt_cmpR (op_neD_k K hr.units) (pe_callB (cr_sorted_k K) (by rfl) T.b_sorted (by decide +kernel) (pa_cons (pv 1) pa_nil)) (pe_listRg rfl (by rfl) T.b_list (prg_1 (by rfl) T.b_range (pv 0))) (nomark _))
(pss_one (ps_raise rfl (takes_of rfl rfl rfl rfl) (pmk_own PySem.F.excBase_ValueError T.X_NoTurn.x T.X_NoTurn.g T.X_NoTurn.k (raises_own T.X_NoTurn.b T.X_NoTurn.t) rfl)))
pss_nil))), ?_⟩
    refine ⟨_, rfl, _, _, _, _, _, rfl, .ty _, hv.ty, kit_ty (kd_list e), _, rfl, ?_⟩
    cases hv with
    | @lst a xs ds ha hall =>
      have hl := hall.length
      have sh : ds.length < 64 := sh
      refine iteF ⟨_, rfl, a, rfl, ⟨_, SqL.of ha⟩, fun pD hD => lc_list (K := K) (a := a) (xs := xs) (fun i H' => Same H H' ∧ H' pD = some (.lst (((ds.take i).map isInt).map V.bl))) ⟨Same.upd hD, upd_same⟩ (fun i H' _ e => SqL.of (e.1 _ _ ha)) ?_ ?_⟩
      · rintro j x H' hx ⟨s1, e1⟩
        obtain ⟨d1, hd1, hD1⟩ := hall.get hx
        refine ⟨rfl, _, rfl, x, d1, rfl, hD1.same s1, _, e1, ?_, ?_, ?_⟩
        · rw [List.length_map, List.length_map, List.length_take]
          exact small1000 (by omega)
        · intro b o hb
          rw [upd_ne (ne_of_none hb hD)]
          exact s1 _ _ hb
        · rw [upd_same, take_more hd1, List.map_append, List.map_append]
          rfl
      rintro H1 ⟨s1, e1⟩
      rw [hl, List.take_length] at e1
      refine ⟨pD, _, rfl, SqL.of e1, _, rfl, ?_⟩
      have ea : (ds.map isInt).all id = ds.all isInt := by
        rw [List.all_map]
        rfl
      rw [ea]
      cases hA : ds.all isInt with
      | false =>
        refine iteT (kE (fun q => ?_) _ s1)
        rw [ordOk_all q] at hA
        cases hA
      | true =>
        refine iteF ?_
        obtain ⟨ns, rfl, rfl⟩ := hall.ints hA
        rw [List.length_map] at sh
        refine ⟨_, rfl, a, ns, rfl, SqL.of (s1 _ _ ha), sh, fun ns' p pm st hp => ?_⟩
        have u2 := Same.upd (o := .lst (ns'.map V.int)) hp
        have e2 : (upd H1 p (.lst (ns'.map V.int))) p = some (.lst (ns'.map V.int)) := upd_same
        generalize upd H1 p (.lst (ns'.map V.int)) = H2 at u2 e2 ⊢
        refine ⟨_, rfl, _, rfl, ⟨by omega, by omega, by omega, by omega, by omega⟩, fun q hq => ?_⟩
        have u3 := Same.upd (o := .lst (rgV 0 (n : Int))) hq
        have e3 : (upd H2 q (.lst (rgV 0 (n : Int)))) q = some (.lst (rgV 0 (n : Int))) := upd_same
        generalize upd H2 q (.lst (rgV 0 (n : Int))) = H3 at u3 e3 ⊢
        rw [rgV_0] at e3
        have oki : ∀ m ∈ ns', Ok (.int m) := fun m hm => OkAll.mem oke (List.mem_map_of_mem (pm.mem_iff.mp hm))
        have okr : ∀ m ∈ rgI n, Ok (.int m) := fun m hm => by
          obtain ⟨i, hi, rfl⟩ := List.mem_map.mp hm
          have := List.mem_range.mp hi
          exact lt300 (Nat.lt_of_lt_of_le (show ((i : Nat) : Int).natAbs < 2 ^ 20 by omega) (by decide))
        obtain ⟨f1, f2, f3⟩ := ints_facts oki
        obtain ⟨g1, g2, g3⟩ := ints_facts okr
        refine ⟨_, _, Dt.dp f2 (.lst (u3 _ _ e2) (dt_ints ns')), Dt.dp g2 (.lst e3 (dt_ints (rgI n))), shaped_py f1 f2 f3, shaped_py g1 g2 g3, _, rfl, ?_⟩
        rw [eqv_ints]
        have iff := ordOk_ints (n := n) pm st
        have s13 := (s1.trans u2).trans u3
        refine itnd (fun c => kE (fun q => c (iff.mp q)) _ s13) fun c => k (iff.mpr c) _ s13
    | _ => exact iteT (kE (fun ⟨_, q, _⟩ => nomatch q) H (Same.refl H))
theorem o_put_so (T : Txt K mg) : OkF P w K mg base CX0 1 "put_so" ["some", "order"] spPutSo := by
  refine T.f_put_so.ok c_put_so (fun vs H Q E h => ?_) (fun f cdv A outer s H vs Q E hr h => ?_)
  · obtain ⟨a, b, xs, is, rfl, _⟩ := h
    rfl
  · obtain ⟨a, b, xs, is, rfl, ha, hb, pm, k⟩ := h
    refine ⟨_, (pss_cons (ps_set (i := 2) c_put_so.nd rfl (Or.inl rfl) (pe_callTy (call_list_of_k K) (by rfl) T.b_list (by decide +kernel) (pa_cons (pv 0) pa_nil)))
(pss_cons (ps_for PassesOwn.never rfl (pi_enum (by rfl) T.b_enumerate (pa_cons (pv 1) pa_nil)) (pg_tup_k K (n := 2) rfl (pgs_cons (pg_name (i := 3) c_put_so.nd rfl (Or.inl rfl)) (pgs_cons (pg_name (i := 4) c_put_so.nd rfl (Or.inl rfl)) pgs_nil)))
(pss_one (ps_asg (pe_ix (ix_list_k K) (pv 0) (pv 3) (fun _ _ => rfl)) (pg_sub (pv 2) (pv 4) set_list))))
(pss_one (ps_ret (pv 2))))), ?_⟩
    have nd : is.Nodup := pm.nodup_iff.mpr List.nodup_range
    have lt : ∀ o ∈ is, o < xs.length := fun o ho => List.mem_range.mp (pm.mem_iff.mp ho)
    have ln : is.length = xs.length := by rw [pm.length_eq, List.length_range]
    refine ⟨_, rfl, a, xs, rfl, .inl (SqL.of ha), fun q hq => ?_⟩
    have u0 := Same.upd (o := .lst xs) hq
    refine ⟨_, rfl, b, _, rfl, SqL.of (u0 _ _ hb), for_it walk_enum (fun i σ H' => Same H H' ∧ ∃ (ys : List V) (v3 v4 : Option V), σ = [some (.ref a), some (.ref b), some (.ref q), v3, v4] ∧ H' q = some (.lst ys) ∧ ys.length = xs.length ∧ ∀ k o : Nat, k < i → is[k]? = some o → ys[o]? = xs[k]?)
      ⟨u0, xs, _, _, rfl, upd_same, rfl, fun k o hk => absurd hk (Nat.not_lt_zero _)⟩ (fun i σ H' _ h => SqL.of (h.1 _ _ hb)) ?_ ?_⟩
    · rintro i y σ H' H'' hi ⟨s2, ys, v3, v4, rfl, hy, ly, py⟩ ⟨tp, y1, y2, rfl, htp, rfl, hy1, hy2⟩
      injection hy1 with hy1
      subst hy1
      obtain ⟨o, ho, rfl⟩ := vsN_inv hy2
      have s3 := Same.upd (o := .tup [V.int (i : Nat), V.int (o : Nat)]) htp
      have s03 := s2.trans s3
      have il : i < xs.length := by
        rw [← ln]
        exact (List.getElem?_eq_some_iff.mp ho).1
      have hx : xs[i]? = some xs[i] := List.getElem?_eq_getElem il
      have ol := lt o (List.mem_of_getElem? ho)
      refine ⟨tp, _, rfl, SqT.of upd_same, rfl, _, _, rfl, _, _, rfl, rfl, ?_⟩
      refine ⟨_, rfl, _, rfl, _, _, _, _, rfl, rfl, SqL.of (s03 _ _ ha), atI_nat hx, _, rfl, _, rfl, q, ys, (o : Int), o, rfl, rfl, s3 _ _ hy, ?_, ?_, ys.set o xs[i], _, _, rfl, upd_same, ?_, ?_⟩
      · have := ixN_lt (n := ys.length) (r := (o : Int)) (by omega) (by omega)
        rw [this]
        rfl
      · intro b' o' hb'
        rw [upd_ne (ne_of_none hb' hq)]
        exact s03 _ _ hb'
      · rw [List.length_set]
        exact ly
      · intro k' o' hk' ho'
        by_cases e : k' = i
        · subst e
          rw [ho] at ho'
          injection ho' with ho'
          subst ho'
          rw [List.getElem?_set_self (by omega), hx]
        · have ne : o ≠ o' := fun z => by
            subst z
            have h1 := (List.getElem?_eq_some_iff.mp ho)
            have h2 := (List.getElem?_eq_some_iff.mp ho')
            exact e ((List.getElem_inj nd).mp (h2.2.trans h1.2.symm))
          rw [List.getElem?_set_ne ne]
          exact py k' o' (by omega) ho'
    · rintro σ H' ⟨s2, ys, v3, v4, rfl, hy, ly, py⟩
      rw [vsN_len] at py
      exact ⟨_, rfl, k q ys H' hq s2 hy ⟨ly, fun k' o' h' => py k' o' (List.getElem?_eq_some_iff.mp h').1 h'⟩⟩
theorem o_put_book (T : Txt K mg) : OkF P w K mg base (L2.CX P w) 4 "put_book" ["book", "order"] (spPutBook T.A.NoTurn) := by
  have o_look_at_order := o_look_at_order (P := P) (w := w) (base := base) T
  have o_put_so := o_put_so (P := P) (w := w) (base := base) T
  refine T.f_put_book.okX c_put_book (fun vs H Q E h => ?_) (fun f cdv A outer s H vs Q E hr h => ?_)
  · obtain ⟨a, v, e, rfl, _⟩ := h
    rfl
  · obtain ⟨a, v, e, rfl, hv, oke, sh, xs, ha, l9, kE, k⟩ := h
    refine ⟨_, (pss_cons (ps_expr (pe_cx o_look_at_order hr (takes_of rfl rfl rfl rfl) (pa_cons (pe_callB (call_len_seq_k K) (by rfl) T.b_len PySem.boot_len (pa_cons (pv 0) pa_nil)) (pa_cons (pv 1) pa_nil))))
(pss_one (ps_ret (pe_c o_put_so hr (pa_cons (pv 0) (pa_cons (pv 1) pa_nil)))))), ?_⟩
    refine ⟨_, rfl, a, xs, rfl, .inl (SqL.of ha), _, rfl, xs.length, v, e, rfl, hv, oke, sh, l9, fun ok H1 s1 => ?_, kE⟩
    obtain ⟨is, rfl, pm⟩ := ok
    obtain ⟨b, rfl, hb⟩ := ord_at (hv.same s1)
    refine ⟨_, rfl, _, rfl, a, b, xs, is, rfl, s1 _ _ ha, hb, pm, fun q ys H' hq s2 hy ps => k is rfl pm q ys H' (same_none s1 hq) (s1.trans s2) hy ps⟩
theorem o_put_wants (T : Txt K mg) : OkF P w K mg base (L2.CX P w) 5 "put_wants" ["wants", "order"] (spPutWants T.A.NoWants T.A.NoTurn) := by
  have o_look_at_wants := o_look_at_wants (P := P) (w := w) (base := base) T
  have o_look_at_order := o_look_at_order (P := P) (w := w) (base := base) T
  have o_put_so := o_put_so (P := P) (w := w) (base := base) T
  refine T.f_put_wants.okX c_put_wants (fun vs H Q E h => ?_) (fun f cdv A outer s H vs Q E hr h => ?_)
  · obtain ⟨u, v, d, e, rfl, _⟩ := h
    rfl
  · obtain ⟨u, v, d, e, rfl, hu, okd, hv, oke, sh, kW, k⟩ := h
    refine ⟨_, (pss_cons (ps_expr (pe_cx o_look_at_wants hr (takes_of rfl rfl rfl rfl) (pa_cons (pv 0) pa_nil)))
(pss_cons (ps_expr (pe_cx o_look_at_order hr (takes_of rfl rfl rfl rfl) (pa_cons (pe_callB (call_len_seq_k K) (by rfl) T.b_len PySem.boot_len (pa_cons (pv 0) pa_nil)) (pa_cons (pv 1) pa_nil))))
(pss_one (ps_ret (pe_c o_put_so hr (pa_cons (pv 0) (pa_cons (pv 1) pa_nil))))))), ?_⟩
    refine ⟨_, rfl, u, d, rfl, hu, okd, fun ok H1 s1 => ?_, kW⟩
    cases hu with
    | @lst a xs' ds ha' hall =>
      obtain ⟨xs, ha, l9, kE, k⟩ := k ok a rfl
      refine ⟨_, rfl, a, xs, rfl, .inl (SqL.of (s1 _ _ ha)), _, rfl, xs.length, v, e, rfl, hv.same s1, oke, sh, l9, fun oko H2 s2 => ?_, fun no H2 s2 => kE no H2 (s1.trans s2)⟩
      obtain ⟨is, rfl, pm⟩ := oko
      have s12 := s1.trans s2
      obtain ⟨b, rfl, hb⟩ := ord_at (hv.same s12)
      refine ⟨_, rfl, _, rfl, a, b, xs, is, rfl, s12 _ _ ha, hb, pm, fun q ys H' hq s3 hy ps => k is rfl pm q ys H' (same_none s12 hq) (s12.trans s3) hy ps⟩
    | _ => cases ok
end
end Dear

namespace Dear
open PySem PySem.Spec PyProof.Rows L2
/-! ### author C's wants -/
def nameC (r k : Nat) : List Nat := letN ((r + k) % 26) :: repT [122] (k % 8 * (r % 2))
theorem letN_inj : ∀ a < 26, ∀ b < 26, letN a = letN b → a = b := by decide +kernel
theorem nameC_len (r k : Nat) : 1 ≤ (nameC r k).length ∧ (nameC r k).length ≤ 8 := by
  unfold nameC
  rw [List.length_cons, repT_len]
  have h1 : k % 8 ≤ 7 := by omega
  have h2 : r % 2 ≤ 1 := by omega
  have := Nat.mul_le_mul h1 h2
  show 1 ≤ k % 8 * (r % 2) * 1 + 1 ∧ k % 8 * (r % 2) * 1 + 1 ≤ 8
  omega
theorem nameC_mem (r k : Nat) : ∀ c ∈ nameC r k, c ∈ letters.cps.toList := fun c hc => by
  rcases List.mem_cons.mp hc with rfl | hc
  · exact letN_mem (Nat.mod_lt _ (by decide))
  · unfold repT at hc
    obtain ⟨l, hl, hc⟩ := List.mem_flatten.mp hc
    have := List.eq_of_mem_replicate hl
    subst this
    have : c = 122 := by simpa using hc
    subst this
    decide +kernel
theorem namesC_nodup (r n : Nat) (h : n ≤ 26) : ((List.range n).map fun k => nameC r k).Nodup := by
  rw [List.nodup_iff_pairwise_ne, List.pairwise_map]
  refine List.Pairwise.imp_of_mem ?_ (List.nodup_iff_pairwise_ne.mp List.nodup_range)
  intro a b ha hb hne e
  have ha := List.mem_range.mp ha
  have hb := List.mem_range.mp hb
  unfold nameC at e
  injection e with e _
  have := letN_inj _ (Nat.mod_lt _ (by decide)) _ (Nat.mod_lt _ (by decide)) e
  omega
/-- the sizes of a row of wants -/
def sizesC (n : Nat) : List Int := [4, 26] ++ (List.replicate n [(9 : Int), 1000000000]).flatten
theorem rep2_at {a b : Int} : ∀ {n k : Nat}, k < n → (List.replicate n [a, b]).flatten[2 * k]? = some a ∧ (List.replicate n [a, b]).flatten[2 * k + 1]? = some b
  | n + 1, 0, _ => ⟨rfl, rfl⟩
  | n + 1, k + 1, h => by
    have ih := rep2_at (a := a) (b := b) (n := n) (k := k) (by omega)
    rw [List.replicate_succ, List.flatten_cons]
    exact ih
theorem rep2_len {a b : Int} (n : Nat) : (List.replicate n [a, b]).flatten.length = 2 * n := by
  induction n with
  | zero => rfl
  | succ n ih =>
    rw [List.replicate_succ, List.flatten_cons, List.length_append, ih]
    show 2 + 2 * n = 2 * (n + 1)
    omega
theorem sizesC_at {n k : Nat} (h : k < n) : (sizesC n)[2 + 2 * k]? = some 9 ∧ (sizesC n)[3 + 2 * k]? = some 1000000000 := by
  have ih := rep2_at (a := 9) (b := 1000000000) h
  unfold sizesC
  constructor
  · rw [List.getElem?_append_right (by show 2 ≤ _; omega)]
    show _[2 + 2 * k - 2]? = _
    rw [show 2 + 2 * k - 2 = 2 * k by omega]
    exact ih.1
  · rw [List.getElem?_append_right (by show 2 ≤ _; omega)]
    show _[3 + 2 * k - 2]? = _
    rw [show 3 + 2 * k - 2 = 2 * k + 1 by omega]
    exact ih.2
theorem sizesC_pos (n : Nat) : ∀ m ∈ sizesC n, 0 < m ∧ m ≤ 1000000000 := fun m hm => by
  unfold sizesC at hm
  rcases List.mem_append.mp hm with hm | hm
  · simp only [List.mem_cons, List.not_mem_nil, or_false] at hm
    rcases hm with rfl | rfl <;> decide
  · obtain ⟨l, hl, hm⟩ := List.mem_flatten.mp hm
    have := List.eq_of_mem_replicate hl
    subst this
    simp only [List.mem_cons, List.not_mem_nil, or_false] at hm
    rcases hm with rfl | rfl <;> decide
theorem sizesC_len (n : Nat) : (sizesC n).length = 2 + 2 * n := by
  unfold sizesC
  rw [List.length_append, rep2_len]
  rfl
theorem sizesC_D (n : Nat) : ([D.int 4, D.int 26] ++ (List.replicate n [D.int 9, D.int ((10 : Int) ^ (9 : Int).toNat)]).flatten) = (sizesC n).map D.int := by
  unfold sizesC
  rw [List.map_append, List.map_flatten, List.map_replicate]
  rfl
def spWantsC (K : PySem.W.Frag) : Sp := fun vs H Q _ => ∃ (a : Addr) (ns : List Int) (t : Int) (n : Nat), vs = [.ref a, .int t, .int (n : Nat)] ∧ SqL K H a (ns.map V.int) ∧ 0 ≤ t ∧ n ≤ 20 ∧
  ∀ (p : Addr) (xs : List V) (ws : List (List Nat × Int)) (H' : Hp), H p = none → Same H H' → H' p = some (.lst xs) → DtAll H' xs (ws.map wantD) → WsOk ws → ws.length = n → Q (.ref p) H'
theorem pu_wants : ∀ {ws : List (List Nat × Int)}, PuAll (ws.map wantD) := by
  intro ws
  induction ws with
  | nil => trivial
  | cons w r ih => exact ⟨⟨trivial, trivial, trivial⟩, ih⟩
theorem pick4 {x y : Int} {r : Nat} (hr : r < 4) (x0 : 0 ≤ x) (x9 : x < 9) (y0 : 0 ≤ y) (y9 : y < 1000000000) : ∃ c : Int, [D.int x, D.int x, D.int (y + 1), D.int 3][r]? = some (.int c) ∧ 0 ≤ c ∧ c ≤ 1000000000 := by
  match r, hr with
  | 0, _ => exact ⟨x, rfl, x0, by omega⟩
  | 1, _ => exact ⟨x, rfl, x0, by omega⟩
  | 2, _ => exact ⟨y + 1, rfl, by omega, by omega⟩
  | 3, _ => exact ⟨3, rfl, by decide, by decide⟩
section
variable {P : Program} {w : World} {K : PySem.W.Frag} {mg : Str → Option Value} {base : Heap}
theorem o__law_wants (T : Txt K mg) : OkF P w K mg base CX0 2 "_law_wants" ["_law_script", "_law_at", "_law_many"] (spWantsC K) := by
  have o__law_cell := o__law_cell (P := P) (w := w) (base := base) T
  have o__law_draws := o__law_draws (P := P) (w := w) (base := base) T
  refine T.f__law_wants.ok c__law_wants (fun vs H Q E h => ?_) (fun f cdv A outer s H vs Q E hr h => ?_)
  · obtain ⟨a, ns, t, n, rfl, _⟩ := h
    rfl
  · obtain ⟨a, ns, t, n, rfl, hS, t0, n20, q⟩ := h
    refine ⟨_, (pss_cons (ps_set (i := 3) c__law_wants.nd rfl (Or.inl rfl) (pe_c o__law_draws hr (pa_cons (pe_c o__law_cell hr (pa_cons (pv 0) (pa_cons (pv 1) pa_nil))) (pa_cons (pv 1) (pa_cons (pe_op op_cat (pe_lst (pa_cons pe_int (pa_cons pe_int pa_nil))) (pe_op op_rep (pe_lst (pa_cons pe_int (pa_cons (pe_op op_pow pe_int pe_int) pa_nil))) (pv 2))) pa_nil)))))
(pss_cons (ps_set (i := 4) c__law_wants.nd rfl (Or.inl rfl) pe_str)
(pss_cons (ps_set (i := 5) c__law_wants.nd rfl (Or.inl rfl) (pe_lst pa_nil))
(pss_cons (ps_for PassesOwn.never rfl (pi_range1 (by rfl) T.b_range (pa_cons (pv 2) pa_nil)) (pg_name (i := 6) c__law_wants.nd rfl (Or.inl rfl))
(pss_cons (ps_set (i := 7) c__law_wants.nd rfl (Or.inl rfl) (pe_ix (ix_list_k K) (pe_lst (pa_cons (pe_ix (ix_list_k K) (pv 3) (pe_op op_add pe_int (pe_op op_mul pe_int (pv 6))) (fun _ _ => rfl)) (pa_cons (pe_ix (ix_list_k K) (pv 3) (pe_op op_add pe_int (pe_op op_mul pe_int (pv 6))) (fun _ _ => rfl)) (pa_cons (pe_op op_add (pe_ix (ix_list_k K) (pv 3) (pe_op op_add pe_int (pe_op op_mul pe_int (pv 6))) (fun _ _ => rfl)) pe_int) (pa_cons pe_int pa_nil))))) (pe_ix (ix_list_k K) (pv 3) pe_int (fun _ _ => rfl)) (fun _ _ => rfl)))
(pss_cons (ps_set (i := 8) c__law_wants.nd rfl (Or.inl rfl) (pe_op op_add_str (pe_ix ix_str (pv 4) (pe_op op_mod (pe_op op_add (pe_ix (ix_list_k K) (pv 3) pe_int (fun _ _ => rfl)) (pv 6)) pe_int) (fun _ _ => rfl)) (pe_op op_repS pe_str (pe_op op_mul (pe_op op_mod (pv 6) pe_int) (pe_op op_mod (pe_ix (ix_list_k K) (pv 3) pe_int (fun _ _ => rfl)) pe_int)))))
(pss_one (ps_expr (pe_bm PySem.F.plainAttrs_list PySem.F.slot_list_append PySem.F.type_list_append mt_append (pv 5) (pa_cons (pe_tup (pa_cons (pv 8) (pa_cons (pv 7) pa_nil))) pa_nil)))))))
(pss_one (ps_ret (pv 5))))))), ?_⟩
    refine ⟨_, rfl, _, rfl, a, ns, t, rfl, hS, t0, fun z => ⟨_, rfl, ?_⟩⟩
    refine s_cons (MkE.go (d := .lst ((sizesC n).map D.int)) (mke_eq (mke_cat (mke_lst (mkea_cons (mke_c fun _ => .int _) (mkea_cons (mke_c fun _ => .int _) mkea_nil))) (mke_rep (n := n) (mke_lst (mkea_cons (mke_c fun _ => .int _) (mkea_cons (mke_pow ⟨by decide, by decide, by decide⟩) mkea_nil))) (mke_var rfl (.int _)) (by omega) (by show 2 * n ≤ 1000; omega)) ?_) (by rw [sizesC_D])) fun v H1 s1 d1 => ?_)
    · have := rep2_len (a := 9) (b := 1000000000) n
      have e := congrArg List.length (sizesC_D n)
      rw [List.length_append, List.length_map, sizesC_len] at e
      omega
    obtain ⟨p1, xs1, rfl, hp1, hall1⟩ := d1.lstAt
    have e1 := hall1.ints'
    subst e1
    refine ⟨_, _, p1, _, rfl, SqL.of hp1, by rw [sizesC_len]; omega, sizesC_pos n, fun p2 rs H2 hp2 s2 h2 dr => ?_⟩
    obtain ⟨r0, hr0, r00, r01⟩ := dr.at (i := 0) (m := 4) rfl
    obtain ⟨r1, hr1, r10, r11⟩ := dr.at (i := 1) (m := 26) rfl
    obtain ⟨m0, rfl⟩ := Int.eq_ofNat_of_zero_le r00
    obtain ⟨m1, rfl⟩ := Int.eq_ofNat_of_zero_le r10
    refine ⟨(by show 0 ≤ sizeLine; decide), fun p hp => ?_⟩
    have s12 := s1.trans s2
    have u3 := Same.upd (o := .lst []) hp
    have hpH := same_none s12 hp
    have z26 : letters.length ≤ sizeLine := by decide +kernel
    refine ⟨_, rfl, _, rfl, by omega, by omega, for_range (lo := 0) (n := n) (fun j σ H' => Same H H' ∧ H' p2 = some (.lst (rs.map V.int)) ∧ ∃ (xs : List V) (ws : List (List Nat × Int)) (v6 v7 v8 : Option V), σ = [some (.ref a), some (.int t), some (.int (n : Nat)), some (.ref p2), some (.str letters), some (.ref p), v6, v7, v8] ∧ H' p = some (.lst xs) ∧ DtAll H' xs (ws.map wantD) ∧ ws.map Prod.fst = (List.range j).map (fun k => nameC m1 k) ∧ ∀ w ∈ ws, 0 ≤ w.2 ∧ w.2 ≤ 1000000000)
      ⟨s12.trans u3, u3 _ _ h2, [], [], _, _, _, rfl, upd_same, .nil, rfl, (fun _ h => nomatch h)⟩ ?_ ?_⟩
    · rintro j σ H4 hj ⟨s4, h24, xs, ws, v6, v7, v8, rfl, hx, hd, hn, hc⟩
      rw [Int.zero_add]
      have lw : ws.length = j := by
        have := congrArg List.length hn
        simpa using this
      have dRow : Dt H4 (.ref p2) (.lst (rs.map D.int)) := .lst h24 (dt_ints rs)
      obtain ⟨sa, sb⟩ := sizesC_at hj
      obtain ⟨x, hx1, x0, x9⟩ := dr.at sa
      obtain ⟨y, hy1, y0, y9⟩ := dr.at sb
      have gD : ∀ {i : Nat} {z : Int}, rs[i]? = some z → (rs.map D.int)[i]? = some (.int z) := fun {i z} h => by
        rw [List.getElem?_map, h]
        rfl
      obtain ⟨c, hc4, c0, c9⟩ := pick4 (x := x) (y := y) (r := m0) (by omega) x0 x9 y0 y9
      have i2 : ∀ {i : Int} {u : Nat} {σ : L2.St}, σ[6]? = some (some (.int (j : Nat))) → i = (u : Nat) → MkE σ (tOp (rI0 fun i j => .int (i + j)) (tC (.int i)) (tOp (rI CMul fun i j => .int (i * j)) (tC (.int 2)) (tVar 6))) H4 (.int ((u + 2 * j : Nat) : Int)) := fun {i u σ} hσ hi => by
        subst hi
        exact mke_eq (mke_add (mke_c fun _ => .int _) (mke_mul (mke_c fun _ => .int _) (mke_var hσ (.int _)) (.inl ⟨by decide, by decide⟩))) (by congr 1)
      refine MkE.go (d := .int c) (mke_ix (n := m0) (mke_lst (mkea_cons (mke_ix (mke_var rfl dRow) (i2 rfl rfl) (gD hx1)) (mkea_cons (mke_ix (mke_var rfl dRow) (i2 rfl rfl) (gD hx1)) (mkea_cons (mke_add (mke_ix (mke_var rfl dRow) (i2 rfl rfl) (gD hy1)) (mke_c fun _ => .int _)) (mkea_cons (mke_c fun _ => .int _) mkea_nil))))) (mke_ix (n := 0) (mke_var rfl dRow) (mke_c fun _ => .int _) (gD hr0)) hc4) fun v H5 s5 d5 => ?_
      have := d5.intAt
      subst this
      have aR : ∀ {H' : Hp}, Same H4 H' → SqL K H' p2 (rs.map V.int) := fun s' => SqL.of (s' _ _ h24)
      have a1 : atI (rs.map V.int) 1 = some (.int (m1 : Nat)) := by
        have : (rs.map V.int)[1]? = some (.int (m1 : Nat)) := by
          rw [List.getElem?_map, hr1]
          rfl
        exact atI_nat this
      refine ⟨_, rfl, _, rfl, _, _, _, _, rfl, rfl, aR s5, a1, _, rfl, _, _, rfl, rfl, _, _, rfl, rfl, (by show (0 : Int) < 26; decide), letters, (((m1 + j) % 26 : Nat) : Int), letN ((m1 + j) % 26), rfl, (by show V.int _ = V.int _; congr 1), z26, letN_atI (Nat.mod_lt _ (by decide)), ?_⟩
      refine ⟨_, rfl, _, _, rfl, rfl, (by show (0 : Int) < 8; decide), _, rfl, _, _, _, _, rfl, rfl, aR s5, a1, _, _, rfl, rfl, (by show (0 : Int) < 2; decide), _, _, rfl, rfl, .inl ⟨by omega, by omega⟩, ?_⟩
      have em : ((j : Int) % 8) * ((m1 : Int) % 2) = ((j % 8 * (m1 % 2) : Nat) : Int) := by
        rw [Int.natCast_mul]
        rfl
      have mb : j % 8 * (m1 % 2) ≤ 7 := by
        have h1 : j % 8 ≤ 7 := by omega
        have h2 : m1 % 2 ≤ 1 := by omega
        exact Nat.mul_le_mul h1 h2
      refine ⟨[122], ((j % 8 * (m1 % 2) : Nat) : Int), rfl, (by show V.int _ = V.int _; rw [em]), by omega, by omega, by decide, ?_⟩
      refine ⟨_, _, rfl, rfl, ?_, ?_⟩
      · rw [txt_length, repT_len]
        exact sz_lit (by show 1 + _ * 1 ≤ 1000; rw [Int.toNat_natCast]; omega)
      dsimp only
      rw [Int.toNat_natCast, show (⟨#[letN ((m1 + j) % 26)]⟩ : Str) ++ txt (repT [122] (j % 8 * (m1 % 2))) = txt (nameC m1 j) from txt_app [letN ((m1 + j) % 26)] _]
      have hx5 := s5 _ _ hx
      refine ⟨_, rfl, .inl ⟨rfl, _, SqL.of hx5⟩, _, rfl, _, rfl, (by show 2 ≤ sizeLine; decide), fun r hr6 => ?_⟩
      have s7 := Same.upd (o := .tup [.str (txt (nameC m1 j)), .int c]) hr6
      have s57 := s5.trans s7
      have hx7 := s57 _ _ hx
      have ner : r ≠ p := fun z => by
        subst z
        rw [hx5] at hr6
        cases hr6
      have lx : xs.length = j := by
        rw [hd.length, List.length_map, lw]
      refine ⟨p, _, _, rfl, rfl, hx7, small1000 (by omega), ?_, ?_, xs ++ [.ref r], ws ++ [(nameC m1 j, c)], _, _, _, rfl, upd_same, ?_, ?_, ?_⟩
      · intro b o hb
        rw [upd_ne (ne_of_none hb hpH)]
        exact s57 _ _ (s4 _ _ hb)
      · rw [upd_ne (fun z => by subst z; rw [h2] at hp; cases hp)]
        exact s57 _ _ h24
      · rw [List.map_append]
        have tp := TP.upd (o := .lst (xs ++ [.ref r])) hx7
        refine (DtAll.tp tp pu_wants (hd.same s57)).app (.cons ?_ .nil)
        refine .tup ?_ (.cons (.str _) (.cons (.int _) .nil))
        rw [upd_ne ner]
        exact upd_same
      · rw [List.map_append, hn, List.range_succ, List.map_append]
        rfl
      · intro w hw
        rcases List.mem_append.mp hw with hw | hw
        · exact hc w hw
        · have : w = (nameC m1 j, c) := by simpa using hw
          subst this
          exact ⟨c0, c9⟩
    · rintro σ H4 ⟨s4, h24, xs, ws, v6, v7, v8, rfl, hx, hd, hn, hc⟩
      have lw : ws.length = n := by
        have := congrArg List.length hn
        simpa using this
      refine ⟨_, rfl, q p xs ws H4 hpH s4 hx hd ⟨fun w hw => ?_, ?_⟩ lw⟩
      · have : w.1 ∈ (List.range n).map (fun k => nameC m1 k) := by
          rw [← hn]
          exact List.mem_map_of_mem hw
        obtain ⟨k, _, e⟩ := List.mem_map.mp this
        have n1 := nameC_mem m1 k
        obtain ⟨n2, n3⟩ := nameC_len m1 k
        rw [e] at n1 n2 n3
        exact ⟨n1, n2, n3, (hc w hw).1, (hc w hw).2⟩
      · rw [hn]
        exact namesC_nodup m1 _ (by omega)
end
end Dear

namespace Dear
open PySem PySem.Spec PyProof.Rows L2
theorem eraseN {α β : Type} (f : α → β) : ∀ (l : List α) (i : Nat), (l.map f).eraseIdx i = (l.eraseIdx i).map f
  | [], _ => rfl
  | _ :: _, 0 => rfl
  | a :: l, i + 1 => congrArg (f a :: ·) (eraseN f l i)
theorem permN {α : Type} : ∀ {l : List α} {i : Nat} {x : α}, l[i]? = some x → l.Perm (x :: l.eraseIdx i)
  | [], _, _, h => by simp at h
  | a :: l, 0, x, h => by
    have : a = x := by simpa using h
    subst this
    exact List.Perm.refl _
  | a :: l, i + 1, x, h => by
    have ih := permN (l := l) (i := i) (x := x) (by simpa using h)
    exact (ih.cons a).trans (List.Perm.swap x a _)
def downI (n i : Nat) : List Int := (List.range i).map fun j => (n : Int) - (j : Nat)
theorem downI_at {n i j : Nat} (h : j < i) : (downI n i)[j]? = some ((n : Int) - (j : Nat)) := by
  unfold downI
  rw [List.getElem?_map, List.getElem?_range h]
  rfl
def spOrderC : Sp := fun vs H Q _ => ∃ (z k : Int) (n : Nat), vs = [.int z, .int k, .int (n : Nat)] ∧ n ≤ 20 ∧
  ∀ (q : Addr) (is : List Nat) (H' : Hp), H q = none → Same H H' → H' q = some (.lst (vsN is)) → is.Perm (List.range n) → Q (.ref q) H'
section
variable {P : Program} {w : World} {K : PySem.W.Frag} {mg : Str → Option Value} {base : Heap}
theorem o__law_order (T : Txt K mg) : OkF P w K mg base CX0 2 "_law_order" ["_law_cell_here", "_law_k", "_law_many"] spOrderC := by
  have o__law_draws := o__law_draws (P := P) (w := w) (base := base) T
  refine T.f__law_order.ok c__law_order (fun vs H Q E h => ?_) (fun f cdv A outer s H vs Q E hr h => ?_)
  · obtain ⟨z, k, n, rfl, _⟩ := h
    rfl
  · obtain ⟨z, k, n, rfl, n20, q⟩ := h
    refine ⟨_, (pss_cons (ps_set (i := 3) c__law_order.nd rfl (Or.inl rfl) (pe_listRg rfl (by rfl) T.b_list (prg_1 (by rfl) T.b_range (pv 2))))
(pss_cons (ps_set (i := 4) c__law_order.nd rfl (Or.inl rfl) (pe_lst pa_nil))
(pss_cons (ps_for PassesOwn.never rfl (pi_list_k K (pe_c o__law_draws hr (pa_cons (pv 0) (pa_cons (pv 1) (pa_cons (pe_lc (own := [("_law_j", 6)]) (g := gName 6) (tt := tYes) (by rfl) c__law_order.nd (pi_range1 (by rfl) T.b_range (pa_cons (pv 2) pa_nil)) (blkOk_by (own := [("_law_j", 6)]) (N := n__law_order) (sc := defScope s__law_order) (by decide +kernel)) (fun _ _ _ _ _ => (pg_name (i := 6) c__law_order.nd rfl (Or.inl rfl))) (fun _ _ _ _ _ => pts_nil) (fun _ _ _ _ _ => (pe_op op_sub (pv 2) (pv 6)))) pa_nil))))) (pg_name (i := 5) c__law_order.nd rfl (Or.inl rfl))
(pss_one (ps_expr (pe_bm PySem.F.plainAttrs_list PySem.F.slot_list_append PySem.F.type_list_append mt_append (pv 4) (pa_cons (pe_bm PySem.F.plainAttrs_list PySem.F.slot_list_pop PySem.F.type_list_pop mt_popAt (pv 3) (pa_cons (pv 5) pa_nil)) pa_nil)))))
(pss_one (ps_ret (pv 4)))))), ?_⟩
    refine ⟨_, rfl, _, rfl, ⟨by omega, by omega, by omega, by omega, by omega⟩, fun pL hL => ?_⟩
    have u1 := Same.upd (o := .lst (rgV 0 (n : Int))) hL
    have e1 : (upd H pL (.lst (rgV 0 (n : Int)))) pL = some (.lst (vsN (List.range n))) := by
      rw [upd_same, rgV_0, vsN_int]
      rfl
    generalize upd H pL (.lst (rgV 0 (n : Int))) = H1 at u1 e1 ⊢
    refine ⟨(by show 0 ≤ sizeLine; decide), fun pF hF => ?_⟩
    have u2 := Same.upd (o := .lst []) hF
    have e2 : (upd H1 pF (.lst [])) pF = some (.lst []) := upd_same
    generalize upd H1 pF (.lst []) = H2 at u2 e2 ⊢
    refine ⟨_, rfl, _, rfl, _, rfl, _, rfl, by omega, by omega, fun pD hD => lc_range (lo := 0) (n := n) (fun i H' => Same H2 H' ∧ H' pD = some (.lst ((downI n i).map V.int))) ⟨Same.upd hD, upd_same⟩ ?_ ?_⟩
    · rintro i H' hi ⟨s3, e3⟩
      rw [Int.zero_add]
      refine ⟨rfl, _, rfl, _, rfl, _, _, rfl, rfl, _, e3, ?_, ?_, ?_⟩
      · unfold downI
        rw [List.length_map, List.length_map, List.length_range]
        exact small1000 (by omega)
      · intro b o hb
        rw [upd_ne (ne_of_none hb hD)]
        exact s3 _ _ hb
      · rw [upd_same]
        unfold downI
        rw [List.range_succ, List.map_append, List.map_append]
        rfl
    rintro H3 ⟨s3, e3⟩
    have ln : (downI n n).length = n := by
      unfold downI
      rw [List.length_map, List.length_range]
    refine ⟨z, k, pD, _, rfl, SqL.of e3, by omega, fun m hm => ?_, fun pR rs H4 hR s4 e4 dr => ?_⟩
    · unfold downI at hm
      obtain ⟨j, hj, rfl⟩ := List.mem_map.mp hm
      have := List.mem_range.mp hj
      omega
    have s24 := s3.trans s4
    have s04 := (u1.trans u2).trans s24
    have neL : pF ≠ pL := fun e => by
      subst e
      rw [e1] at hF
      cases hF
    have hFH := same_none u1 hF
    refine ⟨pR, rfl, ⟨_, SqL.of e4⟩, for_list (K := K) (a := pR) (xs := rs.map V.int) (fun i σ H' => Same H H' ∧ H' pR = some (.lst (rs.map V.int)) ∧ ∃ (ls fs : List Nat) (v5 v6 : Option V), σ = [some (.int z), some (.int k), some (.int (n : Nat)), some (.ref pL), some (.ref pF), v5, v6] ∧ H' pL = some (.lst (vsN ls)) ∧ H' pF = some (.lst (vsN fs)) ∧ (fs ++ ls).Perm (List.range n) ∧ fs.length = i)
      ⟨s04, e4, List.range n, [], _, _, rfl, s24 _ _ (u2 _ _ e1), s24 _ _ e2, List.Perm.refl _, rfl⟩ (fun i σ H' _ h => SqL.of h.2.1) ?_ ?_⟩
    · rintro i x σ H5 hx ⟨s5, e5, ls, fs, v5, v6, rfl, hl, hf, pm, lf⟩
      rw [List.getElem?_map] at hx
      obtain ⟨r, hr1, rfl⟩ : ∃ r, rs[i]? = some r ∧ x = .int r := by
        cases q9 : rs[i]? with
        | none => rw [q9] at hx; cases hx
        | some c => rw [q9] at hx; exact ⟨c, rfl, (Option.some.inj hx).symm⟩
      have ir : i < n := by
        have := (List.getElem?_eq_some_iff.mp hr1).1
        rw [dr.len, ln] at this
        exact this
      obtain ⟨r0, r1⟩ := dr.lt i r _ hr1 (downI_at ir)
      obtain ⟨m, rfl⟩ := Int.eq_ofNat_of_zero_le r0
      have ll : ls.length = n - i := by
        have := pm.length_eq
        rw [List.length_append, List.length_range] at this
        omega
      have hm : ls[m]? = some ls[m] := List.getElem?_eq_getElem (by omega)
      generalize ls[m] = y at hm
      have sq : seqIndex? ((m : Nat) : Int) (vsN ls).length = some m := by
        rw [vsN_len]
        unfold seqIndex?
        simp
        omega
      have nR1 : pR ≠ pL := fun e => by
        subst e
        rw [s3 _ _ (u2 _ _ e1)] at hR
        cases hR
      have nR2 : pR ≠ pF := fun e => by
        subst e
        rw [s3 _ _ e2] at hR
        cases hR
      refine ⟨_, rfl, .inl ⟨rfl, _, SqL.of hf⟩, _, rfl, .inl ⟨rfl, _, SqL.of hl⟩, _, rfl, pL, _, _, m, _, rfl, rfl, hl, by omega, by omega, sq, vsN_get hm, pF, _, _, rfl, rfl, (by rw [upd_ne neL]; exact hf), small1000 (by rw [vsN_len]; omega), ?_, ?_, ls.eraseIdx m, fs ++ [y], _, _, rfl, ?_, ?_, ?_, ?_⟩
      · intro b o hb
        rw [upd_ne (ne_of_none hb hFH), upd_ne (ne_of_none hb hL)]
        exact s5 _ _ hb
      · rw [upd_ne nR2, upd_ne nR1]
        exact e5
      · rw [upd_ne (Ne.symm neL), upd_same]
        unfold vsN
        rw [eraseN]
      · rw [upd_same]
        unfold vsN
        rw [List.map_append]
        rfl
      · refine List.Perm.trans ?_ pm
        rw [List.append_assoc]
        exact ((permN hm).symm).append_left fs
      · rw [List.length_append, lf]
        rfl
    · rintro σ H5 ⟨s5, e5, ls, fs, v5, v6, rfl, hl, hf, pm, lf⟩
      rw [List.length_map, dr.len, ln] at lf
      have l0 : ls = [] := by
        have := pm.length_eq
        rw [List.length_append, List.length_range] at this
        exact List.eq_nil_of_length_eq_zero (by omega)
      subst l0
      rw [List.append_nil] at pm
      exact ⟨_, rfl, q pF fs H5 hFH s5 hf pm⟩
end
end Dear

namespace Dear
open PySem PySem.Spec PyProof.Rows L2
/-! ### what is no order -/
abbrev oD (is : List Nat) : List D := is.map fun i => D.int (i : Nat)
theorem oD_facts {is : List Nat} (h : ∀ i ∈ is, i < 1000) : OkAll (oD is) ∧ NoDAll (oD is) ∧ depAll (oD is) ≤ 0 := by
  refine ⟨?_, ?_, ?_⟩
  · induction is with
    | nil => trivial
    | cons w r ih =>
      have := h w List.mem_cons_self
      exact ⟨lt300 (Nat.lt_of_lt_of_le (show ((w : Nat) : Int).natAbs < 2 ^ 20 by omega) (by decide)), ih fun x hx => h x (List.mem_cons_of_mem _ hx)⟩
  · refine noAll_of fun d hd => ?_
    obtain ⟨w, hw, rfl⟩ := List.mem_map.mp hd
    trivial
  · exact depAll_le (ds := oD is) (n := 0) fun d hd => by
      obtain ⟨w, hw, rfl⟩ := List.mem_map.mp hd
      exact Nat.le_refl _
theorem oD_len (is : List Nat) : (oD is).length = is.length := List.length_map ..
theorem ordOk_elim {n : Nat} {ds : List D} (h : OrdOk n (.lst ds)) : ds.length = n ∧ (∀ d ∈ ds, ∃ i : Nat, i < n ∧ d = .int (i : Nat)) ∧ ds.Nodup := by
  obtain ⟨is, e, pm⟩ := h
  injection e with e
  subst e
  refine ⟨?_, fun d hd => ?_, ?_⟩
  · rw [List.length_map, pm.length_eq, List.length_range]
  · obtain ⟨i, hi, rfl⟩ := List.mem_map.mp hd
    exact ⟨i, List.mem_range.mp (pm.mem_iff.mp hi), rfl⟩
  · rw [List.nodup_iff_pairwise_ne, List.pairwise_map]
    refine List.Pairwise.imp (fun {a b} hne e => ?_) (List.nodup_iff_pairwise_ne.mp (pm.nodup_iff.mpr List.nodup_range))
    injection e with e
    exact hne (by omega)
structure Odd (n : Nat) (is : List Nat) (d : D) : Prop where
  ok : Ok d
  sh : shortL d
  pl : d = .dct ∨ (NoD d ∧ dep d ≤ 64)
  no : ¬ OrdOk n d ∨ d = ordD is
theorem OkAll.of : ∀ {ds : List D}, (∀ d ∈ ds, Ok d) → OkAll ds
  | [], _ => trivial
  | d :: ds, h => ⟨h d List.mem_cons_self, OkAll.of fun x hx => h x (List.mem_cons_of_mem _ hx)⟩
/-- plain items -/
def Pl (d : D) : Prop := Ok d ∧ NoD d ∧ dep d ≤ 1
theorem oddL {n : Nat} {is : List Nat} {ds : List D} (h : ∀ d ∈ ds, Pl d) (hl : ds.length < 64) (no : ¬ OrdOk n (.lst ds) ∨ D.lst ds = ordD is) : Odd n is (.lst ds) := by
  refine ⟨OkAll.of fun d hd => (h d hd).1, hl, .inr ⟨noAll_of fun d hd => (h d hd).2.1, ?_⟩, no⟩
  have := depAll_le (ds := ds) (n := 1) fun d hd => (h d hd).2.2
  show depAll ds + 1 ≤ 64
  omega
theorem pl_int {i : Int} (h : i.natAbs < 2 ^ 200) : Pl (.int i) := ⟨lt300 h, trivial, Nat.zero_le _⟩
theorem pl_bl (b : Bool) : Pl (.bl b) := ⟨trivial, trivial, Nat.zero_le _⟩
theorem pl_non : Pl .non := ⟨trivial, trivial, Nat.zero_le _⟩
theorem pl_nat {i : Nat} (h : i < 1000) : Pl (.int (i : Nat)) := pl_int (Nat.lt_of_lt_of_le (show ((i : Nat) : Int).natAbs < 2 ^ 20 by omega) (by decide))
theorem pl_oD {is : List Nat} (h : ∀ i ∈ is, i < 1000) : ∀ d ∈ oD is, Pl d := fun d hd => by
  obtain ⟨i, hi, rfl⟩ := List.mem_map.mp hd
  exact pl_nat (h i hi)
theorem pl_cons {d : D} {ds : List D} (h1 : Pl d) (h2 : ∀ x ∈ ds, Pl x) : ∀ x ∈ [d] ++ ds, Pl x := fun x hx => by
  rcases List.mem_cons.mp hx with rfl | hx
  · exact h1
  · exact h2 x hx
theorem pl_drop {n : Nat} {ds : List D} (h2 : ∀ x ∈ ds, Pl x) : ∀ x ∈ ds.drop n, Pl x := fun x hx => h2 x (List.mem_of_mem_drop hx)
/-- one of a kind that no order has -/
theorem no_kind {n : Nat} {is : List Nat} {ds : List D} {d : D} (hd : d ∈ ds) (h : ∀ i : Nat, i < n → d ≠ .int (i : Nat)) : ¬ OrdOk n (.lst ds) ∨ D.lst ds = ordD is := .inl fun o => by
  obtain ⟨i, hi, e⟩ := (ordOk_elim o).2.1 d hd
  exact h i hi e
theorem no_len {n : Nat} {is : List Nat} {ds : List D} (h : ds.length ≠ n) : ¬ OrdOk n (.lst ds) ∨ D.lst ds = ordD is := .inl fun o => h (ordOk_elim o).1
theorem no_lst {n : Nat} {is : List Nat} {d : D} (h : ∀ ds, d ≠ .lst ds) : ¬ OrdOk n d ∨ d = ordD is := .inl fun ⟨_, e, _⟩ => h _ e
/-- the last one put ahead too -/
theorem no_last {n : Nat} {is : List Nat} {e : Nat} (hl : is[is.length - 1]? = some e) : ¬ OrdOk n (.lst ([D.int (e : Nat)] ++ (oD is).drop 1)) ∨ D.lst ([D.int (e : Nat)] ++ (oD is).drop 1) = ordD is := by
  match is, hl with
  | [a], hl =>
    right
    have : a = e := by simpa using hl
    subst this
    rfl
  | a :: b :: r, hl =>
    left
    intro o
    have nd := (ordOk_elim o).2.2
    have nd : (D.int (e : Nat) :: oD (b :: r)).Nodup := nd
    refine (List.nodup_cons.mp nd).1 (List.mem_map.mpr ⟨e, ?_, rfl⟩)
    have hl : (b :: r)[r.length]? = some e := hl
    exact List.mem_of_getElem? hl
def spNoOrder : Sp := fun vs H Q _ => ∃ (o : Addr) (z k : Int) (is : List Nat) (n : Nat), vs = [.ref o, .int z, .int k] ∧ H o = some (.lst (vsN is)) ∧ is.Perm (List.range n) ∧ 1 ≤ n ∧ n ≤ 20 ∧
  ∀ (v : V) (e : D) (H' : Hp), Same H H' → Dt H' v e → Ok e → shortL e → ¬ OrdOk n e → Q v H'
theorem off_back {p : Addr} {H H' : Hp} (s : Same H H') (h : H p = none) : Same H (Off p H') := fun b o e => by
  rw [off_ne (ne_of_none e h)]
  exact s _ _ e
theorem eqv_self {d : D} (o : Ok d) (n : NoD d) (h : dep d ≤ 64) : PyData.eqv (py d) (py d) = true := eqv_same (shaped_py o n h)
def blsOf : List D → List Bool
  | [] => []
  | .bl b :: r => b :: blsOf r
  | _ :: r => blsOf r
def blD : D → List Bool
  | .bl b => [b]
  | _ => []
theorem bls_snoc (l : List D) (d : D) : blsOf (l ++ [d]) = blsOf l ++ blD d := by
  induction l with
  | nil => cases d <;> rfl
  | cons a r ih => cases a <;> simp [blsOf, ih]
theorem bls_len : ∀ l : List D, (blsOf l).length ≤ l.length
  | [] => Nat.le_refl _
  | d :: r => by
    have := bls_len r
    cases d <;> simp [blsOf] <;> omega
theorem bls_oD (is : List Nat) : blsOf (oD is) = [] := by
  induction is with
  | nil => rfl
  | cons a r ih => exact ih
theorem dp_bls {K : PySem.W.Frag} {H : Hp} : ∀ bs : List Bool, DpAll K H (bs.map V.bl) (bs.map PyData.bool)
  | [] => .nil
  | b :: bs => .cons (.bl b) (dp_bls bs)
theorem shaped_bls (bs : List Bool) : SeqAt.shaped (.list (bs.map PyData.bool)) = true := by
  have h1 : PyData.canLayAll0 (bs.map PyData.bool) = true := by
    induction bs with
    | nil => rfl
    | cons b r ih =>
      show (PyData.canLay0 (.bool b) && PyData.canLayAll0 (r.map PyData.bool)) = true
      rw [ih]
      rfl
  have h2 : PyData.depthAll (bs.map PyData.bool) = 0 := by
    clear h1
    induction bs with
    | nil => rfl
    | cons b r ih =>
      show max (PyData.depth (.bool b)) (PyData.depthAll (r.map PyData.bool)) = 0
      rw [ih]
      rfl
  show (PyData.canLayAll0 (bs.map PyData.bool) && decide (PyData.depthAll (bs.map PyData.bool) + 1 ≤ 64)) = true
  rw [h1, h2]
  rfl
section
variable {P : Program} {w : World} {K : PySem.W.Frag} {mg : Str → Option Value} {base : Heap}
theorem o__law_no_order (T : Txt K mg) : OkF P w K mg base CX0 2 "_law_no_order" ["_law_order_here", "_law_cell_here", "_law_k"] spNoOrder := by
  have o__law_draws := o__law_draws (P := P) (w := w) (base := base) T
  refine T.f__law_no_order.ok c__law_no_order (fun vs H Q E h => ?_) (fun f cdv A outer s H vs Q E hr h => ?_)
  · obtain ⟨o, z, k, is, n, rfl, _⟩ := h
    rfl
  · obtain ⟨o, z, k, is, n, rfl, ho, pm, n1, n20, q⟩ := h
    refine ⟨_, (pss_cons (ps_set (i := 3) c__law_no_order.nd rfl (Or.inl rfl) (pe_lst (pa_cons pe_non (pa_cons pe_int (pa_cons pe_bl (pa_cons (pe_callTy (call_tuple_of_k K) (by rfl) T.b_tuple (by decide +kernel) (pa_cons (pv 0) pa_nil)) (pa_cons (pe_op op_cat (pv 0) (pe_lst (pa_cons (pe_callB (call_len_seq_k K) (by rfl) T.b_len PySem.boot_len (pa_cons (pv 0) pa_nil)) pa_nil))) (pa_cons (pe_slice (sl_list_k K) (pv 0) (po_some pe_int) po_none) (pa_cons (pe_op op_cat (pe_lst (pa_cons (pe_callB (call_len_seq_k K) (by rfl) T.b_len PySem.boot_len (pa_cons (pv 0) pa_nil)) pa_nil)) (pe_slice (sl_list_k K) (pv 0) (po_some pe_int) po_none)) pa_nil)))))))))
(pss_cons (ps_expr (pe_bm PySem.F.plainAttrs_list PySem.F.slot_list_append PySem.F.type_list_append mt_append (pv 3) (pa_cons (pe_op op_cat (pe_lst (pa_cons (pe_ix (ix_list_k K) (pv 0) (pe_un un_neg pe_int) (fun _ _ => rfl)) pa_nil)) (pe_slice (sl_list_k K) (pv 0) (po_some pe_int) po_none)) pa_nil)))
(C8.pss_cut (ps_if (pt_cmpR op_gt (pe_callB (call_len_seq_k K) (by rfl) T.b_len PySem.boot_len (pa_cons (pv 0) pa_nil)) pe_int (nomark _))
(pss_one (ps_expr (pe_bm PySem.F.plainAttrs_list PySem.F.slot_list_append PySem.F.type_list_append mt_append (pv 3) (pa_cons (pe_op op_cat (pe_lst (pa_cons pe_bl pa_nil)) (pe_lc (own := [("_law_place", 6)]) (g := gName 6) (by rfl) c__law_no_order.nd (pi_list_k K (pv 0)) (blkOk_by (own := [("_law_place", 6)]) (N := n__law_no_order) (sc := defScope s__law_no_order) (by decide +kernel)) (fun _ _ _ _ _ => (pg_name (i := 6) c__law_no_order.nd rfl (Or.inl rfl))) (fun _ _ _ _ _ => (pts_one (pt_cmpR op_ne (pv 6) pe_int (nomark _)))) (fun _ _ _ _ _ => (pv 6)))) pa_nil))))
(pss_one (ps_expr (pe_bm PySem.F.plainAttrs_list PySem.F.slot_list_append PySem.F.type_list_append mt_append (pv 3) (pa_cons (pe_lst (pa_cons pe_bl pa_nil)) pa_nil)))))
(pss_cons (ps_set (i := 3) c__law_no_order.nd rfl (Or.inl rfl) (pe_op op_cat (pv 3) (pe_lst (pa_cons (pe_op op_cat (pe_lst (pa_cons (pe_un un_neg pe_int) pa_nil)) (pe_slice (sl_list_k K) (pv 0) (po_some pe_int) po_none)) (pa_cons (pe_op op_cat (pe_lst (pa_cons pe_non pa_nil)) (pe_slice (sl_list_k K) (pv 0) (po_some pe_int) po_none)) (pa_cons (pe_op op_cat (pe_lst (pa_cons pe_str pa_nil)) (pe_slice (sl_list_k K) (pv 0) (po_some pe_int) po_none)) (pa_cons pe_dnewK (pa_cons pe_str (pa_cons (pe_op op_cat (pe_slice (sl_list_k K) (pv 0) po_none (po_some (pe_un un_neg pe_int))) (pe_lst (pa_cons (pe_lst (pa_cons pe_int pa_nil)) pa_nil))) pa_nil)))))))))
(pss_cons (ps_set (i := 4) c__law_no_order.nd rfl (Or.inl rfl) (pe_ix (ix_list_k K) (pv 3) (pe_op op_mod (pe_ix (ix_list_k K) (pe_c o__law_draws hr (pa_cons (pv 1) (pa_cons (pv 2) (pa_cons (pe_lst (pa_cons pe_int pa_nil)) pa_nil)))) pe_int (fun _ _ => rfl)) (pe_callB (call_len_seq_k K) (by rfl) T.b_len PySem.boot_len (pa_cons (pv 3) pa_nil))) (fun _ _ => rfl)))
(pss_cons (ps_if (PW.pt (pw_and (pt_cmpR (op_eqDX_k K hr.units) (pv 4) (pv 0) (nomark _)) (pw_and (pt_val (pe_callB (call_isi_k K) (by rfl) T.b_isinstance (by decide +kernel) (pa_cons (pv 4) (pa_cons (pe_bltn (v := .ty "list") (by rfl) T.b_list (by decide +kernel) rfl) pa_nil)))) (pw_and1 (pt_cmpR (op_eqD_k K hr.units) (pe_lc (own := [("_law_one", 5)]) (g := gName 5) (by rfl) c__law_no_order.nd (pi_list_k K (pv 4)) (blkOk_by (own := [("_law_one", 5)]) (N := n__law_no_order) (sc := defScope s__law_no_order) (by decide +kernel)) (fun _ _ _ _ _ => (pg_name (i := 5) c__law_no_order.nd rfl (Or.inl rfl))) (fun _ _ _ _ _ => (pts_one (pt_val (pe_callB (call_isi_k K) (by rfl) T.b_isinstance (by decide +kernel) (pa_cons (pv 5) (pa_cons (pe_bltn (v := .ty "bool") (by rfl) T.b_bool (by decide +kernel) rfl) pa_nil)))))) (fun _ _ _ _ _ => (pv 5))) (pe_lst pa_nil) (nomark _))))))
(pss_one (ps_ret pe_non))
pss_nil)
(pss_one (ps_ret (pv 4))))))))), ?_⟩
    have li : is.length = n := by rw [pm.length_eq, List.length_range]
    have lt : ∀ i ∈ is, i < n := fun i hi => List.mem_range.mp (pm.mem_iff.mp hi)
    have lt9 : ∀ i ∈ is, i < 1000 := fun i hi => by
      have := lt i hi
      omega
    have pO := pl_oD lt9
    have hO : Dt H (.ref o) (.lst (oD is)) := ord_dt ho
    have lO := oD_len is
    refine s_seq (s_set (s_lst ?_))
    refine MkEA.go (ds := [.non, .int 5, .bl true, .tup (oD is), .lst (oD is ++ [.int ((oD is).length : Nat)]), .lst ((oD is).drop 1), .lst ([.int ((oD is).length : Nat)] ++ (oD is).drop 1)])
      (mkea_cons (mke_c fun _ => .non) (mkea_cons (mke_c fun _ => .int _) (mkea_cons (mke_c fun _ => .bl _) (mkea_cons (mke_tupof (mke_var rfl hO)) (mkea_cons (mke_cat (mke_var rfl hO) (mke_lst (mkea_cons (mke_len (mke_var rfl hO)) mkea_nil)) (by rw [lO]; show _ + 1 ≤ 1000; omega)) (mkea_cons (mke_from (mke_var rfl hO)) (mkea_cons (mke_cat (mke_lst (mkea_cons (mke_len (mke_var rfl hO)) mkea_nil)) (mke_from (mke_var rfl hO)) (by rw [List.length_drop, lO]; show 1 + _ ≤ 1000; omega)) mkea_nil))))))) fun vs H1 s1 d1 => ⟨sz_lit (by rw [d1.length]; exact Nat.le_of_ble_eq_true rfl), fun pS hS => ?_⟩
    have u2 := Same.upd (o := .lst vs) hS
    have e2 : (upd H1 pS (.lst vs)) pS = some (.lst vs) := upd_same
    generalize upd H1 pS (.lst vs) = H2 at u2 e2 ⊢
    have s2 := s1.trans u2
    have ho2 := s2 _ _ ho
    have hSH := same_none s1 hS
    obtain ⟨le, hle⟩ : ∃ le, is[is.length - 1]? = some le := ⟨_, List.getElem?_eq_getElem (by omega)⟩
    have hle' : atI (vsN is) (-1) = some (.int (le : Nat)) := at_end (by rw [vsN_len]; exact vsN_get hle)
    refine ⟨_, rfl, .inl ⟨rfl, _, SqL.of e2⟩, _, rfl, _, rfl, _, _, _, _, rfl, rfl, SqL.of ho2, hle', (by show 1 ≤ sizeLine; decide), fun p1 hp1 => ?_⟩
    have u3 := Same.upd (o := .lst [V.int (le : Nat)]) hp1
    have e3 : (upd H2 p1 (.lst [V.int (le : Nat)])) p1 = some (.lst [V.int (le : Nat)]) := upd_same
    generalize upd H2 p1 (.lst [V.int (le : Nat)]) = H3 at u3 e3 ⊢
    refine ⟨_, rfl, _, rfl, o, _, rfl, SqL.of (u3 _ _ ho2), fun p2 hp2 => ?_⟩
    rw [show cutV (vsN is) (some 1) none = (vsN is).drop 1 from cutV_from _ 1]
    have u4 := Same.upd (o := .lst ((vsN is).drop 1)) hp2
    have e4 : (upd H3 p2 (.lst ((vsN is).drop 1))) p2 = some (.lst ((vsN is).drop 1)) := upd_same
    generalize upd H3 p2 (.lst ((vsN is).drop 1)) = H4 at u4 e4 ⊢
    refine ⟨p1, p2, _, _, rfl, rfl, u4 _ _ e3, e4, sz_lit (by rw [List.length_drop, vsN_len]; show 1 + _ ≤ 1000; omega), fun p3 hp3 => ?_⟩
    have u5 := Same.upd (o := .lst ([V.int (le : Nat)] ++ (vsN is).drop 1)) hp3
    have e5 : (upd H4 p3 (.lst ([V.int (le : Nat)] ++ (vsN is).drop 1))) p3 = some (.lst ([V.int (le : Nat)] ++ (vsN is).drop 1)) := upd_same
    have nSp : p3 ≠ pS := fun e => by
      subst e
      rw [u4 _ _ (u3 _ _ e2)] at hp3
      cases hp3
    generalize upd H4 p3 (.lst ([V.int (le : Nat)] ++ (vsN is).drop 1)) = H5 at u5 e5 ⊢
    have s25 := (u3.trans u4).trans u5
    have s15 : Same H1 H5 := u2.trans s25
    have l7 : vs.length = 7 := d1.length
    refine ⟨pS, _, _, rfl, rfl, s25 _ _ e2, small1000 (by omega), ?_⟩
    have s16 : Same H1 (upd H5 pS (.lst (vs ++ [.ref p3]))) := fun b o' hb => by
      rw [upd_ne (ne_of_none hb hS)]
      exact s15 _ _ hb
    have e6 : (upd H5 pS (.lst (vs ++ [.ref p3]))) pS = some (.lst (vs ++ [.ref p3])) := upd_same
    have f6 : (upd H5 pS (.lst (vs ++ [.ref p3]))) p3 = some (.lst ([V.int (le : Nat)] ++ (vsN is).drop 1)) := by
      rw [upd_ne nSp]
      exact e5
    generalize upd H5 pS (.lst (vs ++ [.ref p3])) = H6 at s16 e6 f6 ⊢
    have s06 := s1.trans s16
    have d6 : DtAll (Off pS H6) (vs ++ [.ref p3]) (_ ++ [.lst ([.int (le : Nat)] ++ (oD is).drop 1)]) := (d1.same (off_back s16 hS)).app (.cons (.lst (by rw [off_ne nSp]; exact f6) (.cons (.int _) ((dt_vsN is).drop 1))) .nil)
    have odd8 : ∀ d ∈ [D.non, .int 5, .bl true, .tup (oD is), .lst (oD is ++ [.int ((oD is).length : Nat)]), .lst ((oD is).drop 1), .lst ([.int ((oD is).length : Nat)] ++ (oD is).drop 1)] ++ [D.lst ([.int (le : Nat)] ++ (oD is).drop 1)], Odd n is d := by
      have pn : Pl (.int ((oD is).length : Nat)) := pl_nat (by omega)
      have f := oD_facts lt9
      intro d hd
      simp only [List.cons_append, List.nil_append, List.mem_cons, List.not_mem_nil, or_false] at hd
      rcases hd with rfl | rfl | rfl | rfl | rfl | rfl | rfl | rfl
      · exact ⟨trivial, trivial, .inr ⟨trivial, Nat.zero_le _⟩, no_lst fun _ e => nomatch e⟩
      · exact ⟨okI, trivial, .inr ⟨trivial, Nat.zero_le _⟩, no_lst fun _ e => nomatch e⟩
      · exact ⟨trivial, trivial, .inr ⟨trivial, Nat.zero_le _⟩, no_lst fun _ e => nomatch e⟩
      · exact ⟨f.1, trivial, .inr ⟨f.2.1, by show depAll (oD is) + 1 ≤ 64; omega⟩, no_lst fun _ e => nomatch e⟩
      · refine oddL (fun x hx => ?_) (by rw [List.length_append]; show _ + 1 < 64; omega) (no_len (by rw [List.length_append]; show _ + 1 ≠ n; omega))
        rcases List.mem_append.mp hx with hx | hx
        · exact pO x hx
        · have : x = .int ((oD is).length : Nat) := by simpa using hx
          subst this
          exact pn
      · exact oddL (pl_drop pO) (by rw [List.length_drop]; omega) (no_len (by rw [List.length_drop]; omega))
      · exact oddL (pl_cons pn (pl_drop pO)) (by rw [List.length_cons, List.length_drop]; omega) (no_kind List.mem_cons_self fun i hi e => by injection e with e; omega)
      · exact oddL (pl_cons (pl_nat (lt9 le (List.mem_of_getElem? hle))) (pl_drop pO)) (by rw [List.length_cons, List.length_drop]; omega) (no_last hle)
    have l8 : (vs ++ [V.ref p3]).length = 8 := by rw [List.length_append, l7]; rfl
    refine ⟨fun σ' H' => Same H H' ∧ ∃ (xs : List V) (ds : List D), σ' = [some (.ref o), some (.int z), some (.int k), some (.ref pS), none, none, none] ∧ H' pS = some (.lst xs) ∧ DtAll (Off pS H') xs ds ∧ ds.length = 9 ∧ ∀ d ∈ ds, Odd n is d, ?_, ?_⟩
    · have more : ∀ {H7 : Hp} {r : Addr} {ys : List V} {es : List D}, Same H6 H7 → H6 r = none → H7 r = some (.lst ys) → DtAll (Off pS (upd H7 pS (.lst ((vs ++ [V.ref p3]) ++ [.ref r])))) ys es → Odd n is (.lst es) →
          Same H (upd H7 pS (.lst ((vs ++ [V.ref p3]) ++ [.ref r]))) ∧ ∃ (xs : List V) (ds : List D), [some (V.ref o), some (.int z), some (.int k), some (.ref pS), none, none, none] = [some (V.ref o), some (.int z), some (.int k), some (.ref pS), none, none, none] ∧ (upd H7 pS (.lst ((vs ++ [V.ref p3]) ++ [.ref r]))) pS = some (.lst xs) ∧ DtAll (Off pS (upd H7 pS (.lst ((vs ++ [V.ref p3]) ++ [.ref r])))) xs ds ∧ ds.length = 9 ∧ ∀ d ∈ ds, Odd n is d := by
        intro H7 r ys es s7 hr7 hr8 dy od
        have nr : r ≠ pS := fun e => by
          subst e
          rw [e6] at hr7
          cases hr7
        have so : Same (Off pS H6) (Off pS (upd H7 pS (.lst ((vs ++ [V.ref p3]) ++ [.ref r])))) := ((But.of s7).trans But.upd).off
        refine ⟨fun b o' hb => ?_, _, _ ++ [.lst es], rfl, upd_same, (d6.same so).app (.cons (.lst (by rw [off_ne nr, upd_ne nr]; exact hr8) dy) .nil), rfl, fun d hd => ?_⟩
        · rw [upd_ne (ne_of_none hb hSH)]
          exact s7 _ _ (s06 _ _ hb)
        · rcases List.mem_append.mp hd with hd | hd
          · exact odd8 d hd
          · have : d = .lst es := by simpa using hd
            subst this
            exact od
      have ho6 := s06 _ _ ho
      refine ⟨_, rfl, _, _, rfl, .inl (SqL.of ho6), _, _, rfl, rfl, _, rfl, itd (fun c => ?_) fun c => ?_⟩
      · refine ⟨_, rfl, .inl ⟨rfl, _, SqL.of e6⟩, (by show 1 ≤ sizeLine; decide), fun q1 hq1 => ?_⟩
        have w1 := Same.upd (o := .lst [V.bl true]) hq1
        have g1 : (upd H6 q1 (.lst [V.bl true])) q1 = some (.lst [V.bl true]) := upd_same
        generalize upd H6 q1 (.lst [V.bl true]) = H7 at w1 g1 ⊢
        refine ⟨_, rfl, o, rfl, ⟨_, SqL.of (w1 _ _ ho6)⟩, fun pD hD => lc_list (K := K) (a := o) (xs := vsN is) (fun i H' => Same H7 H' ∧ H' pD = some (.lst (vsN ((is.take i).filter fun i => decide (i ≠ 1))))) ⟨Same.upd hD, upd_same⟩ (fun i H' _ e => SqL.of (e.1 _ _ (w1 _ _ ho6))) ?_ ?_⟩
        · rintro j x H' hx ⟨s1', e1'⟩
          obtain ⟨y, hy, rfl⟩ := vsN_inv hx
          have tk : (is.take (j + 1)).filter (fun i => decide (i ≠ 1)) = (is.take j).filter (fun i => decide (i ≠ 1)) ++ (if y ≠ 1 then [y] else []) := by
            rw [take_more hy, List.filter_append]
            congr 1
            by_cases e : y = 1 <;> simp [e]
          refine ⟨rfl, _, rfl, rfl, _, rfl, itnd (fun c => ?_) fun c => ?_⟩
          · have c : y ≠ 1 := fun e => c (by rw [e]; rfl)
            rw [if_pos c] at tk
            refine ⟨_, rfl, _, e1', ?_, ?_, ?_⟩
            · have h1 := List.length_filter_le (fun i => decide (i ≠ 1)) (is.take j)
              have h2 := List.length_take_le' j is
              rw [vsN_len]
              exact small1000 (by omega)
            · intro b o' hb
              rw [upd_ne (ne_of_none hb hD)]
              exact s1' _ _ hb
            · rw [upd_same, tk]
              unfold vsN
              rw [List.map_append]
              rfl
          · have c : y = 1 := by
              injection c with c
              omega
            rw [if_neg (by rw [c]; decide), List.append_nil] at tk
            exact ⟨s1', by rw [tk]; exact e1'⟩
        rintro H8 ⟨s8, e8⟩
        rw [vsN_len, List.take_length] at e8
        have lf : (is.filter fun i => decide (i ≠ 1)).length ≤ 20 := by
          have h1 := List.length_filter_le (fun i => decide (i ≠ 1)) is
          omega
        have g1' := s8 _ _ g1
        refine ⟨q1, pD, _, _, rfl, rfl, g1', e8, sz_lit (by rw [vsN_len]; show 1 + _ ≤ 1000; omega), fun q3 hq3 => ?_⟩
        have w3 := Same.upd (o := .lst ([V.bl true] ++ vsN (is.filter fun i => decide (i ≠ 1)))) hq3
        have s68 := w1.trans s8
        refine ⟨pS, _, _, rfl, rfl, w3 _ _ (s68 _ _ e6), small1000 (by omega), ?_⟩
        refine more (es := [.bl true] ++ oD (is.filter fun i => decide (i ≠ 1))) (s68.trans w3) (same_none s68 hq3) upd_same (.cons (.bl _) (dt_vsN _)) (oddL (pl_cons (pl_bl _) (pl_oD fun i hi => lt9 i (List.mem_filter.mp hi).1)) (by rw [List.length_append, oD_len]; show 1 + _ < 64; omega) (no_kind List.mem_cons_self fun i hi e => nomatch e))
      · refine ⟨_, rfl, .inl ⟨rfl, _, SqL.of e6⟩, (by show 1 ≤ sizeLine; decide), fun q1 hq1 => ?_⟩
        refine ⟨pS, _, _, rfl, rfl, Same.upd hq1 _ _ e6, small1000 (by omega), ?_⟩
        exact more (es := [.bl false]) (Same.upd hq1) hq1 upd_same (.cons (.bl _) .nil) (oddL (pl_cons (pl_bl _) fun _ h => nomatch h) (by decide) (no_kind List.mem_cons_self fun i hi e => nomatch e))
    rintro σ' H7 ⟨s7, xs, ds, rfl, hxs, hds, l9, odd9⟩
    have hO7 : Dt H7 (.ref o) (.lst (oD is)) := hO.same s7
    refine s_seq (s_set (s_op2 ⟨_, rfl, s_lst ?_⟩))
    refine MkEA.go (ds := [.lst ([.int (-1)] ++ (oD is).drop 1), .lst ([.non] ++ (oD is).drop 1), .lst ([.str "0"] ++ (oD is).drop 1), .dct, .str "0", .lst ((oD is).take ((oD is).length - 1) ++ [.lst [.int 0]])])
      (mkea_cons (mke_cat (mke_lst (mkea_cons mke_neg mkea_nil)) (mke_from (mke_var rfl hO7)) (by rw [List.length_drop, lO]; show 1 + _ ≤ 1000; omega)) (mkea_cons (mke_cat (mke_lst (mkea_cons (mke_c fun _ => .non) mkea_nil)) (mke_from (mke_var rfl hO7)) (by rw [List.length_drop, lO]; show 1 + _ ≤ 1000; omega)) (mkea_cons (mke_cat (mke_lst (mkea_cons (mke_c fun _ => .str _) mkea_nil)) (mke_from (mke_var rfl hO7)) (by rw [List.length_drop, lO]; show 1 + _ ≤ 1000; omega)) (mkea_cons mke_dnew (mkea_cons (mke_c fun _ => .str _) (mkea_cons (mke_cat (mke_init (mke_var rfl hO7)) (mke_lst (mkea_cons (mke_lst (mkea_cons (mke_c fun _ => .int _) mkea_nil)) mkea_nil)) (by rw [List.length_take, lO]; show _ + 1 ≤ 1000; omega)) mkea_nil)))))) fun ws H8 s8 d8 => ⟨sz_lit (by rw [d8.length]; exact Nat.le_of_ble_eq_true rfl), fun p4 hp4 => ?_⟩
    have odd6 : ∀ d ∈ [D.lst ([.int (-1)] ++ (oD is).drop 1), .lst ([.non] ++ (oD is).drop 1), .lst ([.str "0"] ++ (oD is).drop 1), .dct, .str "0", .lst ((oD is).take ((oD is).length - 1) ++ [.lst [.int 0]])], Odd n is d := by
      intro d hd
      simp only [List.mem_cons, List.not_mem_nil, or_false] at hd
      rcases hd with rfl | rfl | rfl | rfl | rfl | rfl
      · exact oddL (pl_cons (pl_int (by decide)) (pl_drop pO)) (by rw [List.length_append, List.length_drop]; show 1 + _ < 64; omega) (no_kind List.mem_cons_self fun i hi e => by injection e with e; omega)
      · exact oddL (pl_cons pl_non (pl_drop pO)) (by rw [List.length_append, List.length_drop]; show 1 + _ < 64; omega) (no_kind List.mem_cons_self fun i hi e => nomatch e)
      · exact oddL (pl_cons ⟨okS, trivial, Nat.zero_le _⟩ (pl_drop pO)) (by rw [List.length_append, List.length_drop]; show 1 + _ < 64; omega) (no_kind List.mem_cons_self fun i hi e => nomatch e)
      · exact ⟨trivial, trivial, .inl rfl, no_lst fun _ e => nomatch e⟩
      · exact ⟨okS, trivial, .inr ⟨trivial, Nat.zero_le _⟩, no_lst fun _ e => nomatch e⟩
      · refine oddL (fun x hx => ?_) (by rw [List.length_append, List.length_take]; show _ + 1 < 64; omega) (no_kind (List.mem_append_right _ List.mem_cons_self) fun i hi e => nomatch e)
        rcases List.mem_append.mp hx with hx | hx
        · exact pO x (List.mem_of_mem_take hx)
        · have : x = .lst [.int 0] := by simpa using hx
          subst this
          exact ⟨⟨okI, trivial⟩, ⟨trivial, trivial⟩, by decide⟩
    have u9 := Same.upd (o := .lst ws) hp4
    have e9 : (upd H8 p4 (.lst ws)) p4 = some (.lst ws) := upd_same
    generalize upd H8 p4 (.lst ws) = H9 at u9 e9 ⊢
    have s79 := s8.trans u9
    have lx : xs.length = 9 := by rw [hds.length, l9]
    have lw : ws.length = 6 := d8.length
    refine ⟨pS, p4, _, _, rfl, rfl, s79 _ _ hxs, e9, sz_lit (by omega), fun p5 hp5 => ?_⟩
    have u10 := Same.upd (o := .lst (xs ++ ws)) hp5
    have e10 : (upd H9 p5 (.lst (xs ++ ws))) p5 = some (.lst (xs ++ ws)) := upd_same
    generalize upd H9 p5 (.lst (xs ++ ws)) = H10 at u10 e10 ⊢
    have s710 := s79.trans u10
    have hall := (hds.same ((Off.sub pS H7).trans s710)).app (d8.same (u9.trans u10))
    have s010 := s7.trans s710
    refine ⟨_, rfl, _, rfl, _, rfl, (by show 1 ≤ sizeLine; decide), fun p6 hp6 => ?_⟩
    have u11 := Same.upd (o := .lst [V.int 1009]) hp6
    refine ⟨z, k, p6, [1009], rfl, SqL.of upd_same, by decide, by decide, fun p7 rs H12 hp7 s12 e12 dr => ?_⟩
    obtain ⟨r, rfl, r0, r1⟩ := dr.one
    have s1012 := u11.trans s12
    have l15 : (xs ++ ws).length = 15 := by rw [List.length_append]; omega
    have hall12 := hall.same s1012
    obtain ⟨v, hv, _, hv2⟩ := at_lt (xs := xs ++ ws) (r := r % ((xs ++ ws).length : Int)) (Int.emod_nonneg _ (by omega)) (Int.emod_lt_of_pos _ (by omega))
    obtain ⟨d, hd, dv⟩ := hall12.get hv2
    have od : Odd n is d := by
      rcases List.mem_append.mp (List.mem_of_getElem? hd) with h | h
      · exact odd9 d h
      · exact odd6 d h
    refine ⟨_, _, _, _, rfl, rfl, SqL.of e12, rfl, _, rfl, p5, _, rfl, .inl (SqL.of (s1012 _ _ e10)), _, _, rfl, rfl, (by show (0 : Int) < ((xs ++ ws).length : Int); omega), p5, _, _, v, rfl, rfl, SqL.of (s1012 _ _ e10), hv, ?_⟩
    have s012 := s010.trans s1012
    have hO12 := hO.same s012
    have fin : ∀ H', Same H12 H' → (d = ordD is → False) → Q v H' := fun H' s' no => q v d H' (s012.trans s') (dv.same s') od.ok od.sh (by rcases od.no with h | h; exact h; exact absurd h no)
    have fo := oD_facts lt9
    have fo2 : NoD (.lst (oD is)) := fo.2.1
    have fo1 : Ok (.lst (oD is)) := fo.1
    have fo3 : dep (.lst (oD is)) ≤ 64 := by show depAll (oD is) + 1 ≤ 64; omega
    refine ⟨_, rfl, _, rfl, ?_⟩
    rcases od.pl with rfl | ⟨nod, dep64⟩
    · cases dv with
      | dct ha => exact .inr ⟨_, o, _, _, rfl, rfl, ha, SqL.of (s012 _ _ ho), _, rfl, iteF ⟨_, rfl, fin _ (Same.refl _) fun e => nomatch e⟩⟩
    refine .inl ⟨_, _, dv.dp nod, hO12.dp fo2, shaped_py od.ok nod dep64, shaped_py fo1 fo2 fo3, _, rfl, itb (fun c1 => ?_) fun c1 => ⟨_, rfl, fin _ (Same.refl _) fun e => ?_⟩⟩
    · refine ⟨_, rfl, _, _, _, _, _, rfl, .ty _, dv.ty, kit_ty (kd_list d), _, rfl, ?_⟩
      cases dv with
      | @lst a ys es ha hall =>
        refine iteT ⟨_, rfl, a, rfl, ⟨_, SqL.of ha⟩, fun pD hD => lc_list (K := K) (a := a) (xs := ys) (fun i H' => Same H12 H' ∧ H' pD = some (.lst ((blsOf (es.take i)).map V.bl))) ⟨Same.upd hD, upd_same⟩ (fun i H' _ e => SqL.of (e.1 _ _ ha)) ?_ ?_⟩
        · rintro j x H' hx ⟨s1', e1'⟩
          obtain ⟨dx, hdx, hdt⟩ := hall.get hx
          have tk : blsOf (es.take (j + 1)) = blsOf (es.take j) ++ blD dx := by rw [take_more hdx, bls_snoc]
          refine ⟨rfl, _, rfl, _, _, _, _, _, rfl, .ty _, (hdt.same s1').ty, kit_ty (kd_bool dx), _, rfl, ?_⟩
          cases hdt with
          | bl b =>
            refine iteT ⟨_, rfl, _, e1', ?_, ?_, ?_⟩
            · have h1 := bls_len (es.take j)
              have h2 := List.length_take_le' j es
              have h3 : es.length < 64 := od.sh
              rw [List.length_map]
              exact small1000 (by omega)
            · intro b' o' hb
              rw [upd_ne (ne_of_none hb hD)]
              exact s1' _ _ hb
            · rw [upd_same, tk, List.map_append]
              rfl
          | _ => exact iteF ⟨s1', by rw [tk, show blD _ = [] from rfl, List.append_nil]; exact e1'⟩
        rintro H13 ⟨s13, e13⟩
        rw [hall.length, List.take_length] at e13
        refine ⟨(by show 0 ≤ sizeLine; decide), fun pE hE => ?_⟩
        have u14 := Same.upd (o := .lst []) hE
        refine ⟨_, _, .lst (SqL.of (u14 _ _ e13)) (dp_bls _), .lst (SqL.of upd_same) .nil, shaped_bls _, shaped_nil, _, rfl, ?_⟩
        rw [eqv_nil]
        refine itb (fun c => ?_) fun c => ⟨_, rfl, fin _ (s13.trans u14) fun e => ?_⟩
        · exact q .non .non _ (s012.trans (s13.trans u14)) .non trivial trivial fun ⟨_, e, _⟩ => nomatch e
        · injection e with e
          subst e
          rw [bls_oD] at c
          cases c
      | _ => exact iteF ⟨_, rfl, fin _ (Same.refl _) fun e => nomatch e⟩
    · subst e
      have := eqv_self (d := ordD is) od.ok nod dep64
      rw [show D.lst (oD is) = ordD is from rfl, this] at c1
      cases c1
end
end Dear

namespace Dear
open PySem PySem.Spec PyProof.Rows L2
/-! ### try suites with named readings; unpacking of lists -/
theorem XfC.of {K : PySem.W.Frag} {C : Addr} (T : ExcC K C) : XfC K C := ⟨T.hg, T.hk, T.hs, T.hd⟩
/-- try .. except X: ..; try .. except X as n: .. (readings with a name, for loops) -/
def sTryO (K : PySem.W.Frag) (c : Value) (ts : Addr → Value → Option Addr → TS) (Wout : WX) (tb : WX → TS) : TS := fun D σ H => tb (wOnly K c ts Wout D) D σ H
def sTryA (K : PySem.W.Frag) (c : Value) (i : Nat) (ts : Addr → Value → Option Addr → TS) (Wout : WX) (tb : WX → TS) : TS := fun D σ H => tb (wAs K c i ts Wout D) D σ H
section
variable {X : Cx} {x n : Str} {c : Value} {i : Nat} {body suite : List Stmt} {b₀ : Stmt} {np pos pos' : Pos} {tb : WX → TS} {ts : Addr → Value → Option Addr → TS} {Wout : WX}
theorem ps_tryO (hs : X.stack = X.env :: X.outer) (hf : X.env.frame = some X.env.locals) (hc : Names X x c) (tk : Takes X Wout)
    (hb : ∀ (W : WX) (pn : List (Addr × Obj)) (xe : Value → Shared → Prop), Takes (X.tr pn xe) W → PassesOwn (model X.prog X.w) X.A X.env xe → PSs (X.tr pn xe) body (tb W))
    (hsu : ∀ (a : Addr) (oe : Obj) (cls : Value) (d : Option Addr) (pn : List (Addr × Obj)), Zc cls d oe → (∃ vs, oe.data = .fields vs) → PSs (X.suite a ((a, oe) :: pn)) (b₀ :: suite) (ts a cls d)) :
    PS X (.Try body [.ExceptHandler (some (.Name x np)) none (b₀ :: suite) pos'] [] [] pos) (sTryO X.K c ts Wout tb) := ps_try_only hs hf hc tk hb hsu
theorem ps_tryA (hs : X.stack = X.env :: X.outer) (hf : X.env.frame = some X.env.locals) (hN : X.N.Nodup) (hi : X.N[i]? = some n) (hln : X.env.kindOf n = some .local) (hc : Names X x c) (tk : Takes X Wout)
    (hb : ∀ (W : WX) (pn : List (Addr × Obj)) (xe : Value → Shared → Prop), Takes (X.tr pn xe) W → PassesOwn (model X.prog X.w) X.A X.env xe → PSs (X.tr pn xe) body (tb W))
    (hsu : ∀ (a : Addr) (oe : Obj) (cls : Value) (d : Option Addr) (pn : List (Addr × Obj)), Zc cls d oe → (∃ vs, oe.data = .fields vs) → PSs (X.suite a ((a, oe) :: pn)) (b₀ :: suite) (ts a cls d)) :
    PS X (.Try body [.ExceptHandler (some (.Name x np)) (some n) (b₀ :: suite) pos'] [] [] pos) (sTryA X.K c i ts Wout tb) := ps_try_as hs hf hN hi hln hc tk hb hsu
end
theorem pg_lst_k {X : Cx} (K : PySem.W.Frag) {es : List Expr} {k : Nat} {t : TGs} {n : Nat} {pos : Pos} (hc : X.calm = true) (hg : PGs X es t) (h : X.K = K := by rfl)
    (hn : (assignEach es X.env).length = n := by rfl) (hst : (assignEach es X.env).findIdx? (·.1) = none := by rfl) : PG X (.Tuple es k pos) (gLst K n t) := h ▸ pg_lst hc hg hn hst
end Dear

namespace Dear
open PySem PySem.Spec PyProof.Rows L2
/-- a kept refusal of the class at C: True -/
def spRefusal (C : Addr) : Sp := fun vs H Q _ => ∃ a : Addr, vs = [.ref a] ∧ H a = some (ExK (.ref C) none a) ∧ ∀ H', Same H H' → Q (.bl true) H'
theorem sign2 {v : V} (h : v ∈ [V.int 1, V.int (-1)]) : ∃ m : Int, v = .int m ∧ (m = 1 ∨ m = -1) := by
  simp only [List.mem_cons, List.not_mem_nil, or_false] at h
  rcases h with rfl | rfl
  · exact ⟨1, rfl, .inl rfl⟩
  · exact ⟨-1, rfl, .inr rfl⟩
section
variable {P : Program} {w : World} {K : PySem.W.Frag} {mg : Str → Option Value} {base : Heap}
end
end Dear

namespace Dear
open PySem PySem.Spec PyProof.Rows L2
section
variable {P : Program} {w : World} {K : PySem.W.Frag} {mg : Str → Option Value} {base : Heap}
theorem o__law_is_no_turn (T : Txt K mg) : OkF P w K mg base CX0 1 "_law_is_no_turn" ["_law_kept"] (spRefusal T.A.NoTurn) := by
  refine T.f__law_is_no_turn.ok c__law_is_no_turn (fun vs H Q E h => ?_) (fun f cdv A outer s H vs Q E hr h => ?_)
  · obtain ⟨v, rfl, _⟩ := h
    rfl
  · obtain ⟨a, rfl, ha, k⟩ := h
    refine ⟨_, (pss_cons (ps_if (PW.pt (pw_or (pt_not (pt_val (pe_callB (call_isX_k K) (by rfl) T.b_isinstance (by decide +kernel) (pa_cons (pv 0) (pa_cons (pe_glob (v := .ref T.A.NoTurn) rfl T.C_NoTurn rfl) pa_nil))))) (pw_or1 (pt_not (pt_val (pe_callB (call_isX_k K) (by rfl) T.b_isinstance (by decide +kernel) (pa_cons (pv 0) (pa_cons (pe_bltn (v := .ty "ValueError") (by rfl) T.b_ValueError (by decide +kernel) rfl) pa_nil))))))))
(pss_one (ps_ret pe_bl))
pss_nil)
(pss_cons (ps_set (i := 1) c__law_is_no_turn.nd rfl (Or.inl rfl) (pe_callB (call_isXT_k K) (by rfl) T.b_isinstance (by decide +kernel) (pa_cons (pv 0) (pa_cons (pe_tup (pa_cons (pe_glob (v := .ref T.A.NoBook) rfl T.C_NoBook rfl) (pa_cons (pe_glob (v := .ref T.A.NoTongue) rfl T.C_NoTongue rfl) (pa_cons (pe_glob (v := .ref T.A.NoWants) rfl T.C_NoWants rfl) (pa_cons (pe_glob (v := .ref T.A.NoTree) rfl T.C_NoTree rfl) (pa_cons (pe_glob (v := .ref T.A.TooMany) rfl T.C_TooMany rfl) (pa_cons (pe_glob (v := .ref T.A.NoUndo) rfl T.C_NoUndo rfl) (pa_cons (pe_glob (v := .ref T.A.NoCount) rfl T.C_NoCount rfl) (pa_cons (pe_glob (v := .ref T.A.NoNumber) rfl T.C_NoNumber rfl) (pa_cons (pe_glob (v := .ref T.A.NoRow) rfl T.C_NoRow rfl) (pa_cons (pe_glob (v := .ref T.A.NoText) rfl T.C_NoText rfl) pa_nil))))))))))) pa_nil))))
(pss_one (ps_ret (pe_and (pe_not (pv 1)) (pe_one (pe_not (pe_callB (call_isXT_k K) (by rfl) T.b_isinstance (by decide +kernel) (pa_cons (pv 0) (pa_cons (pe_tup (pa_cons (pe_glob (v := .ref T.A.Unknown) rfl T.C_Unknown rfl) (pa_cons (pe_glob (v := .ref T.A.NoThing) rfl T.C_NoThing rfl) (pa_cons (pe_glob (v := .ref T.A.BadSign) rfl T.C_BadSign rfl) pa_nil)))) pa_nil)))))))))), ?_⟩
    refine ⟨_, rfl, a, _, _, _, _, rfl, ha, T.X_NoTurn.c, .own _, T.q_NoTurn_NoTurn, _, rfl, iteF ?_⟩
    refine ⟨_, rfl, a, _, _, _, _, rfl, ha, T.X_NoTurn.c, .ty _, T.q_NoTurn_ValueError, _, rfl, iteF ?_⟩
    refine ⟨_, rfl, (by show 10 ≤ sizeLine; decide), fun p hp => ?_⟩
    refine ⟨a, _, p, _, _, false, rfl, Same.upd hp _ _ ha, T.X_NoTurn.c, upd_same, cls_all (cs := [_, _, _, _, _, _, _, _, _, _]), kit_none ?_, ?_⟩
    · intro u hu
      simp only [List.map_cons, List.map_nil, List.mem_cons, List.not_mem_nil, or_false] at hu
      rcases hu with rfl | rfl | rfl | rfl | rfl | rfl | rfl | rfl | rfl | rfl
      · exact T.q_NoTurn_NoBook
      · exact T.q_NoTurn_NoTongue
      · exact T.q_NoTurn_NoWants
      · exact T.q_NoTurn_NoTree
      · exact T.q_NoTurn_TooMany
      · exact T.q_NoTurn_NoUndo
      · exact T.q_NoTurn_NoCount
      · exact T.q_NoTurn_NoNumber
      · exact T.q_NoTurn_NoRow
      · exact T.q_NoTurn_NoText
    have s1 := Same.upd (o := .tup [.ref T.A.NoBook, .ref T.A.NoTongue, .ref T.A.NoWants, .ref T.A.NoTree, .ref T.A.TooMany, .ref T.A.NoUndo, .ref T.A.NoCount, .ref T.A.NoNumber, .ref T.A.NoRow, .ref T.A.NoText]) hp
    refine ⟨_, rfl, _, rfl, _, rfl, iteT ⟨_, rfl, (by show 3 ≤ sizeLine; decide), fun p2 hp2 => ?_⟩⟩
    refine ⟨a, _, p2, _, _, false, rfl, Same.upd hp2 _ _ (s1 _ _ ha), T.X_NoTurn.c, upd_same, cls_all (cs := [_, _, _]), kit_none ?_, ?_⟩
    · intro u hu
      simp only [List.map_cons, List.map_nil, List.mem_cons, List.not_mem_nil, or_false] at hu
      rcases hu with rfl | rfl | rfl
      · exact T.q_NoTurn_Unknown
      · exact T.q_NoTurn_NoThing
      · exact T.q_NoTurn_BadSign
    exact ⟨_, rfl, k _ (s1.trans (Same.upd hp2))⟩
end
end Dear

namespace Dear
open PySem PySem.Spec PyProof.Rows L2
def spRefused58 : Sp := fun vs H Q _ => ∃ (a : Addr) (v : V) (e : D) (y : Int) (xs : List V), vs = [.ref a, v, .int y] ∧ Dt H v e ∧ Ok e ∧ shortL e ∧ H a = some (.lst xs) ∧ xs.length ≤ 1000 ∧ ¬ OrdOk xs.length e ∧ (y = 0 → ∃ d, Dt H (.ref a) d ∧ Ok d ∧ wantsBad d = none) ∧
  ∀ H', Same H H' → Q (.bl true) H'
def spNumber58 : Sp := fun vs H Q _ => ∃ (u v : V) (d e : D) (m : V), vs = [u, v] ∧ Dt H u d ∧ Ok d ∧ wantsBad d = some m ∧ Dt H v e ∧ Ok e ∧ shortL e ∧ ∀ H', Same H H' → Q m H'
section
variable {P : Program} {w : World} {K : PySem.W.Frag} {mg : Str → Option Value} {base : Heap}
theorem o__law_refused (T : Txt K mg) : OkF P w K mg base CX0 6 "_law_refused" ["_law_things", "_law_thing", "_law_way"] spRefused58 := by
  have o_put_wants := o_put_wants (P := P) (w := w) (base := base) T
  have o_put_book := o_put_book (P := P) (w := w) (base := base) T
  have o__law_is_no_turn := o__law_is_no_turn (P := P) (w := w) (base := base) T
  refine T.f__law_refused.ok c__law_refused (fun vs H Q E h => ?_) (fun f cdv A outer s H vs Q E hr h => ?_)
  · obtain ⟨a, v, e, y, xs, rfl, _⟩ := h
    rfl
  · obtain ⟨a, v, e, y, xs, rfl, hv, oke, sh, ha, l9, no, hw, k⟩ := h
    refine ⟨_, (pss_cons (ps_set (i := 3) c__law_refused.nd rfl (Or.inl rfl) pe_non)
(pss_cons (ps_try_kept (i := 4) (j := 3) rfl rfl rfl c__law_refused.nd rfl rfl (by decide) rfl rfl ⟨rfl, by decide, Or.inl T.C_DearError⟩ takes0 (fun W pn xe tk _ =>
(pss_one (ps_if (pt_cmpR op_eq (pv 2) pe_int (nomark _))
(pss_one (ps_expr (pe_cx o_put_wants hr tk (pa_cons (pv 0) (pa_cons (pv 1) pa_nil)))))
(pss_one (ps_expr (pe_cx o_put_book hr tk (pa_cons (pv 0) (pa_cons (pv 1) pa_nil)))))))))
(pss_one (ps_ret (pe_c o__law_is_no_turn hr (pa_cons (pv 3) pa_nil)))))), ?_⟩
    refine ⟨_, rfl, rfl, _, rfl, itd (fun c => ?_) fun c => ?_⟩
    · have c : y = 0 := by injection c
      obtain ⟨d, hd, okd, wd⟩ := hw c
      refine ⟨_, rfl, _, rfl, _, v, d, e, rfl, hd, okd, hv, oke, sh, fun m hm => (by rw [wd] at hm; cases hm), fun _ a' ea => ?_⟩
      injection ea with ea
      subst ea
      refine ⟨xs, ha, l9, fun _ H1 s1 => ?_, fun is e1 pm => absurd ⟨is, e1, pm⟩ no⟩
      refine ⟨true, T.m_NoTurn, fun _ b hb => ?_, fun q => nomatch q⟩
      exact ⟨_, rfl, b, rfl, upd_same, fun H' s' => k _ ((s1.trans (Same.upd hb)).trans s')⟩
    · refine ⟨_, rfl, _, rfl, a, v, e, rfl, hv, oke, sh, xs, ha, l9, fun _ H1 s1 => ?_, fun is e1 pm => absurd ⟨is, e1, pm⟩ no⟩
      refine ⟨true, T.m_NoTurn, fun _ b hb => ?_, fun q => nomatch q⟩
      exact ⟨_, rfl, b, rfl, upd_same, fun H' s' => k _ ((s1.trans (Same.upd hb)).trans s')⟩
theorem o__law_number (T : Txt K mg) : OkF P w K mg base CX0 6 "_law_number" ["_law_thing", "_law_order_here"] spNumber58 := by
  have o_put_wants := o_put_wants (P := P) (w := w) (base := base) T
  refine T.f__law_number.ok c__law_number (fun vs H Q E h => ?_) (fun f cdv A outer s H vs Q E hr h => ?_)
  · obtain ⟨u, v, d, e, m, rfl, _⟩ := h
    rfl
  · obtain ⟨u, v, d, e, m, rfl, hu, okd, wd, hv, oke, sh, k⟩ := h
    refine ⟨_, (pss_cons (ps_set (i := 2) c__law_number.nd rfl (Or.inl rfl) pe_str)
(pss_cons (ps_tryA (i := 3) rfl rfl c__law_number.nd rfl rfl ⟨rfl, by decide, Or.inl T.C_NoWants⟩ takes0 (fun W pn xe tk _ =>
(pss_one (ps_expr (pe_cx o_put_wants hr tk (pa_cons (pv 0) (pa_cons (pv 1) pa_nil))))))
(fun a oe cls d pn hz hf =>
(pss_one (ps_set (i := 2) c__law_number.nd rfl (Or.inl rfl) (pe_xf (XfC.of T.X_NoWants.c) T.X_NoWants.n hz hf (pv 3))))))
(pss_one (ps_ret (pv 2))))), ?_⟩
    refine ⟨_, rfl, _, rfl, u, v, d, e, rfl, hu, okd, hv, oke, sh, fun m' hm dd H1 s1 hdd hx => ?_, fun z => (by rw [wd] at z; cases z)⟩
    rw [wd] at hm
    injection hm with hm
    subst hm
    have lk : List.lookup ("number" : Str) [(("number" : Str), m)] = some m := by simp [List.lookup]
    refine ⟨true, T.e_NoWants, fun _ a ha => ?_, fun q => nomatch q⟩
    exact ⟨_, rfl, rfl, rfl, dd, _, _, rfl, hx, lk, _, rfl, k _ s1⟩
end
end Dear

namespace Dear
open PySem PySem.Spec PyProof.Rows L2
/-! ### what are no wants -/
theorem rep1_len {x : D} (n : Nat) : (List.replicate n [x]).flatten.length = n := by
  induction n with
  | zero => rfl
  | succ n ih =>
    rw [List.replicate_succ, List.flatten_cons, List.length_append, ih]
    show 1 + n = n + 1
    omega
theorem bad_head {x : D} {r : List D} (h : isWant x = false) (hl : r.length < 20) : wantsBad (.lst (x :: r)) = some (.int 0) := by
  show (if 1 ≤ (x :: r).length ∧ (x :: r).length ≤ 20 then badAt 0 [] (x :: r) else some .non) = _
  rw [if_pos ⟨by simp, by rw [List.length_cons]; omega⟩, bad_step, h]
  rfl
theorem bad_app : ∀ {ws : List (List Nat × Int)} {seen : List (List Nat)} {i : Nat} {r : List D}, (∀ w ∈ ws, WOk w) → (seen ++ ws.map Prod.fst).Nodup → badAt i (seen.map txt) (ws.map wantD ++ r) = badAt (i + ws.length) ((seen ++ ws.map Prod.fst).map txt) r
  | [], seen, i, r, _, _ => by
    rw [List.map_nil, List.map_nil, List.append_nil]
    rfl
  | w :: ws, seen, i, r, h, nd => by
    have h1 := (h w List.mem_cons_self).is
    have h2 : ¬ txt w.1 ∈ seen.map txt := fun q => by
      obtain ⟨l, hl, e⟩ := List.mem_map.mp q
      have e := txt_inj e
      subst e
      exact (List.nodup_append.mp nd).2.2 _ hl _ (List.mem_cons_self ..) rfl
    show (if isWant (wantD w) && !decide (txt w.1 ∈ seen.map txt) then badAt (i + 1) (seen.map txt ++ [txt w.1]) (ws.map wantD ++ r) else _) = _
    rw [h1, decide_eq_false h2, if_pos (by rfl)]
    have := bad_app (ws := ws) (seen := seen ++ [w.1]) (i := i + 1) (r := r) (fun x hx => h x (List.mem_cons_of_mem _ hx)) (by rw [List.append_assoc]; exact nd)
    rw [List.map_append] at this
    rw [show [txt w.1] = [w.1].map txt from rfl, this, List.append_assoc, List.length_cons]
    rw [show i + 1 + ws.length = i + (ws.length + 1) by omega]
    rfl
/-- a name that is there already -/
theorem bad_dup {ws : List (List Nat × Int)} (h : WsOk ws) (hl : ws.length ≤ 19) {w : List Nat × Int} (hw : w ∈ ws) {x : D} (hx : nameD x = txt w.1) : wantsBad (.lst (ws.map wantD ++ [x])) = some (.int (ws.length : Nat)) := by
  show (if 1 ≤ (ws.map wantD ++ [x]).length ∧ (ws.map wantD ++ [x]).length ≤ 20 then badAt 0 [] (ws.map wantD ++ [x]) else some .non) = _
  rw [if_pos (by rw [List.length_append, List.length_map]; show 1 ≤ _ + 1 ∧ _ + 1 ≤ 20; omega)]
  have := bad_app (ws := ws) (seen := []) (i := 0) (r := [x]) h.all h.nd
  rw [show ([] : List Str) = ([] : List (List Nat)).map txt from rfl, this, bad_step, hx]
  have e : txt w.1 ∈ (([] : List (List Nat)) ++ ws.map Prod.fst).map txt := List.mem_map.mpr ⟨w.1, List.mem_map.mpr ⟨w, hw, rfl⟩, rfl⟩
  rw [decide_eq_true e, Bool.not_true, Bool.and_false, if_neg (by decide), Nat.zero_add]
/-- a pair of a thing that is no wants and the number told -/
def NW (x : D) : Prop := ∃ (d nd : D) (m : V), x = .tup [d, nd] ∧ Ok d ∧ wantsBad d = some m ∧ (∀ (H : Hp) (v : V), Dt H v nd → v = m) ∧ scal m m = true
theorem nw_non {d : D} (ok : Ok d) (h : wantsBad d = some .non) : NW (.tup [d, .non]) := ⟨d, .non, .non, rfl, ok, h, fun _ _ h => by cases h; rfl, rfl⟩
theorem nw_int {d : D} {i : Int} (ok : Ok d) (h : wantsBad d = some (.int i)) : NW (.tup [d, .int i]) := ⟨d, .int i, .int i, rfl, ok, h, fun _ _ h => by cases h; rfl, rfl⟩
def spNoWants58 : Sp := fun vs H Q _ => ∃ (a : Addr) (xs : List V) (ws : List (List Nat × Int)), vs = [.ref a] ∧ H a = some (.lst xs) ∧ DtAll H xs (ws.map wantD) ∧ WsOk ws ∧ 1 ≤ ws.length ∧ ws.length ≤ 20 ∧
  ∀ (q : Addr) (vs : List V) (ds : List D) (H' : Hp), Same H H' → H' q = some (.lst vs) → DtAll H' vs ds → ds.length = 9 → (∀ x ∈ ds, NW x) → Q (.ref q) H'
section
variable {P : Program} {w : World} {K : PySem.W.Frag} {mg : Str → Option Value} {base : Heap}
theorem o__law_no_wants (T : Txt K mg) : OkF P w K mg base CX0 1 "_law_no_wants" ["_law_wants_here"] spNoWants58 := by
  refine T.f__law_no_wants.ok c__law_no_wants (fun vs H Q E h => ?_) (fun f cdv A outer s H vs Q E hr h => ?_)
  · obtain ⟨a, xs, ws, rfl, _⟩ := h
    rfl
  · obtain ⟨a, xs, ws, rfl, ha, hall, wo, l1, l20, k⟩ := h
    refine ⟨_, (pss_cons (ps_asg (pe_ix (ix_list_k K) (pv 0) pe_int (fun _ _ => rfl)) (pg_tup_k K (n := 2) rfl (pgs_cons (pg_name (i := 1) c__law_no_wants.nd rfl (Or.inl rfl)) (pgs_cons (pg_name (i := 2) c__law_no_wants.nd rfl (Or.inl rfl)) pgs_nil))))
(pss_cons (ps_set (i := 3) c__law_no_wants.nd rfl (Or.inl rfl) (pe_lst (pa_cons (pe_tup (pa_cons pe_non (pa_cons pe_non pa_nil))) (pa_cons (pe_tup (pa_cons (pe_lst pa_nil) (pa_cons pe_non pa_nil))) (pa_cons (pe_tup (pa_cons (pe_callTy (call_tuple_of_k K) (by rfl) T.b_tuple (by decide +kernel) (pa_cons (pv 0) pa_nil)) (pa_cons pe_non pa_nil))) (pa_cons (pe_tup (pa_cons (pe_op op_cat (pv 0) (pe_op op_rep (pe_lst (pa_cons (pe_tup (pa_cons (pv 1) (pa_cons pe_int pa_nil))) pa_nil)) (pe_op op_sub pe_int (pe_callB (call_len_seq_k K) (by rfl) T.b_len PySem.boot_len (pa_cons (pv 0) pa_nil))))) (pa_cons pe_non pa_nil))) pa_nil))))))
(pss_cons (ps_set (i := 3) c__law_no_wants.nd rfl (Or.inl rfl) (pe_op op_cat (pv 3) (pe_lst (pa_cons (pe_tup (pa_cons (pe_op op_cat (pe_lst (pa_cons (pe_tup (pa_cons (pv 1) (pa_cons pe_bl pa_nil))) pa_nil)) (pe_slice (sl_list_k K) (pv 0) (po_some pe_int) po_none)) (pa_cons pe_int pa_nil))) (pa_cons (pe_tup (pa_cons (pe_op op_cat (pe_lst (pa_cons (pe_tup (pa_cons (pv 1) (pa_cons (pe_un un_neg pe_int) pa_nil))) pa_nil)) (pe_slice (sl_list_k K) (pv 0) (po_some pe_int) po_none)) (pa_cons pe_int pa_nil))) (pa_cons (pe_tup (pa_cons (pe_op op_cat (pe_lst (pa_cons (pe_lst (pa_cons (pv 1) (pa_cons (pv 2) pa_nil))) pa_nil)) (pe_slice (sl_list_k K) (pv 0) (po_some pe_int) po_none)) (pa_cons pe_int pa_nil))) pa_nil))))))
(pss_one (ps_ret (pe_op op_cat (pv 3) (pe_lst (pa_cons (pe_tup (pa_cons (pe_op op_cat (pe_slice (sl_list_k K) (pv 0) po_none (po_some pe_int)) (pe_lst (pa_cons (pe_tup (pa_cons (pv 1) (pa_cons (pv 2) pa_nil))) pa_nil))) (pa_cons (pe_callB (call_min2 rfl) (by rfl) T.b_min (by decide +kernel) (pa_cons pe_int (pa_cons (pe_callB (call_len_seq_k K) (by rfl) T.b_len PySem.boot_len (pa_cons (pv 0) pa_nil)) pa_nil))) pa_nil))) (pa_cons (pe_tup (pa_cons (pe_op op_cat (pe_lst (pa_cons (pe_tup (pa_cons pe_str (pa_cons pe_int pa_nil))) pa_nil)) (pe_slice (sl_list_k K) (pv 0) (po_some pe_int) po_none)) (pa_cons pe_int pa_nil))) pa_nil))))))))), ?_⟩
    have hW : Dt H (.ref a) (.lst (ws.map wantD)) := .lst ha hall
    have fW := wants_facts wo.all
    match ws, l1 with
    | w0 :: ws', _ =>
    rw [List.length_cons] at l20
    obtain ⟨x0, hx0, dx0⟩ := hall.atN (i := 0) (d := wantD w0) rfl
    obtain ⟨t, ys, rfl, ht, hy⟩ := dx0.tupAt
    have ey : ys = [.str (txt w0.1), .int w0.2] := by
      cases hy with
      | cons h1 h2 =>
        cases h1
        cases h2 with
        | cons h3 h4 =>
          cases h3
          cases h4
          rfl
    subst ey
    refine ⟨_, rfl, _, _, _, _, rfl, rfl, SqL.of ha, atI_nat hx0, t, _, rfl, SqT.of ht, rfl, _, _, rfl, _, _, rfl, rfl, ?_⟩
    have ok0 := wo.all w0 List.mem_cons_self
    have okW : OkAll (List.map wantD (w0 :: ws')) := fW.1
    have okn : Ok (.str (txt w0.1)) := okW.1.1
    have okc : Ok (.int w0.2) := okW.1.2.1
    have okR : OkAll ((List.map wantD (w0 :: ws')).drop 1) := okW.2
    have lm : (List.map wantD (w0 :: ws')).length = ws'.length + 1 := by rw [List.length_map, List.length_cons]
    dsimp only
    refine s_seq (s_set (s_lst ?_))
    refine MkEA.go (ds := [.tup [.non, .non], .tup [.lst [], .non], .tup [.tup (List.map wantD (w0 :: ws')), .non], .tup [.lst (List.map wantD (w0 :: ws') ++ (List.replicate (20 - ws'.length) [D.tup [.str (txt w0.1), .int 1]]).flatten), .non]])
      (mkea_cons (mke_tup (mkea_cons (mke_c fun _ => .non) (mkea_cons (mke_c fun _ => .non) mkea_nil))) (mkea_cons (mke_tup (mkea_cons (mke_lst mkea_nil) (mkea_cons (mke_c fun _ => .non) mkea_nil))) (mkea_cons (mke_tup (mkea_cons (mke_tupof (mke_var rfl hW)) (mkea_cons (mke_c fun _ => .non) mkea_nil))) (mkea_cons (mke_tup (mkea_cons (mke_cat (mke_var rfl hW) (mke_rep (n := 20 - ws'.length) (mke_lst (mkea_cons (mke_tup (mkea_cons (mke_var rfl (.str _)) (mkea_cons (mke_c fun _ => .int _) mkea_nil))) mkea_nil)) (mke_eq (mke_sub (mke_c fun _ => .int _) (mke_len (mke_var rfl hW))) (by rw [lm]; congr 1; omega)) (by omega) (by show 1 * _ ≤ 1000; omega)) (by rw [lm, rep1_len]; omega)) (mkea_cons (mke_c fun _ => .non) mkea_nil))) mkea_nil)))) fun vs H1 s1 d1 => ⟨sz_lit (by rw [d1.length]; exact Nat.le_of_ble_eq_true rfl), fun p1 hp1 => ?_⟩
    have u1 := Same.upd (o := .lst vs) hp1
    have e1 : (upd H1 p1 (.lst vs)) p1 = some (.lst vs) := upd_same
    generalize upd H1 p1 (.lst vs) = H2 at u1 e1 ⊢
    have s2 := s1.trans u1
    have d2 := d1.same u1
    have hW1 := hW.same s2
    dsimp only
    refine s_seq (s_set (s_op2 ⟨_, rfl, s_lst ?_⟩))
    refine MkEA.go (ds := [.tup [.lst ([.tup [.str (txt w0.1), .bl true]] ++ (List.map wantD (w0 :: ws')).drop 1), .int 0], .tup [.lst ([.tup [.str (txt w0.1), .int (-1)]] ++ (List.map wantD (w0 :: ws')).drop 1), .int 0], .tup [.lst ([.lst [.str (txt w0.1), .int w0.2]] ++ (List.map wantD (w0 :: ws')).drop 1), .int 0]])
      (mkea_cons (mke_tup (mkea_cons (mke_cat (mke_lst (mkea_cons (mke_tup (mkea_cons (mke_var rfl (.str _)) (mkea_cons (mke_c fun _ => .bl _) mkea_nil))) mkea_nil)) (mke_from (n := 1) (mke_var rfl hW1)) (by (try simp only [List.length_append, List.length_cons, List.length_nil, List.length_drop, List.length_take, List.length_map]); omega)) (mkea_cons (mke_c fun _ => .int _) mkea_nil))) (mkea_cons (mke_tup (mkea_cons (mke_cat (mke_lst (mkea_cons (mke_tup (mkea_cons (mke_var rfl (.str _)) (mkea_cons mke_neg mkea_nil))) mkea_nil)) (mke_from (n := 1) (mke_var rfl hW1)) (by (try simp only [List.length_append, List.length_cons, List.length_nil, List.length_drop, List.length_take, List.length_map]); omega)) (mkea_cons (mke_c fun _ => .int _) mkea_nil))) (mkea_cons (mke_tup (mkea_cons (mke_cat (mke_lst (mkea_cons (mke_lst (mkea_cons (mke_var rfl (.str _)) (mkea_cons (mke_var rfl (.int _)) mkea_nil))) mkea_nil)) (mke_from (n := 1) (mke_var rfl hW1)) (by (try simp only [List.length_append, List.length_cons, List.length_nil, List.length_drop, List.length_take, List.length_map]); omega)) (mkea_cons (mke_c fun _ => .int _) mkea_nil))) mkea_nil))) fun us H3 s3 d3 => ⟨sz_lit (by rw [d3.length]; exact Nat.le_of_ble_eq_true rfl), fun p2 hp2 => ?_⟩
    have u2 := Same.upd (o := .lst us) hp2
    have e2 : (upd H3 p2 (.lst us)) p2 = some (.lst us) := upd_same
    generalize upd H3 p2 (.lst us) = H4 at u2 e2 ⊢
    have s24 := s3.trans u2
    have lv : vs.length = 4 := d1.length
    have lu : us.length = 3 := d3.length
    refine ⟨p1, p2, _, _, rfl, rfl, s24 _ _ e1, e2, sz_lit (by omega), fun p3 hp3 => ?_⟩
    have u3 := Same.upd (o := .lst (vs ++ us)) hp3
    have e3 : (upd H4 p3 (.lst (vs ++ us))) p3 = some (.lst (vs ++ us)) := upd_same
    generalize upd H4 p3 (.lst (vs ++ us)) = H5 at u3 e3 ⊢
    have s25 := s24.trans u3
    have d5 := (d2.same s25).app (d3.same (u2.trans u3))
    have hW1 := hW1.same s25
    dsimp only
    refine s_ret (s_op2 ⟨_, rfl, s_lst ?_⟩)
    refine MkEA.go (ds := [.tup [.lst ((List.map wantD (w0 :: ws')).take 19 ++ [.tup [.str (txt w0.1), .int w0.2]]), .int (if ((List.map wantD (w0 :: ws')).length : Int) < 19 then ((List.map wantD (w0 :: ws')).length : Int) else 19)], .tup [.lst ([.tup [.str "A", .int 1]] ++ (List.map wantD (w0 :: ws')).drop 1), .int 0]])
      (mkea_cons (mke_tup (mkea_cons (mke_cat (mke_upto (n := 19) (mke_var rfl hW1)) (mke_lst (mkea_cons (mke_tup (mkea_cons (mke_var rfl (.str _)) (mkea_cons (mke_var rfl (.int _)) mkea_nil))) mkea_nil)) (by (try simp only [List.length_append, List.length_cons, List.length_nil, List.length_drop, List.length_take, List.length_map]); omega)) (mkea_cons (mke_min2 (mke_c fun _ => .int _) (mke_len (mke_var rfl hW1))) mkea_nil))) (mkea_cons (mke_tup (mkea_cons (mke_cat (mke_lst (mkea_cons (mke_tup (mkea_cons (mke_c fun _ => .str _) (mkea_cons (mke_c fun _ => .int _) mkea_nil))) mkea_nil)) (mke_from (n := 1) (mke_var rfl hW1)) (by (try simp only [List.length_append, List.length_cons, List.length_nil, List.length_drop, List.length_take, List.length_map]); omega)) (mkea_cons (mke_c fun _ => .int _) mkea_nil))) mkea_nil)) fun rs H6 s6 d6 => ⟨sz_lit (by rw [d6.length]; exact Nat.le_of_ble_eq_true rfl), fun p4 hp4 => ?_⟩
    have u4 := Same.upd (o := .lst rs) hp4
    have e4 : (upd H6 p4 (.lst rs)) p4 = some (.lst rs) := upd_same
    generalize upd H6 p4 (.lst rs) = H7 at u4 e4 ⊢
    have s57 := s6.trans u4
    have lr : rs.length = 2 := d6.length
    refine ⟨p3, p4, _, _, rfl, rfl, s57 _ _ e3, e4, sz_lit (by rw [List.length_append]; omega), fun p5 hp5 => ?_⟩
    have u5 := Same.upd (o := .lst ((vs ++ us) ++ rs)) hp5
    have s02 := s2.trans (s25.trans (s57.trans u5))
    refine k p5 _ _ _ s02 upd_same (((d5.same (s57.trans u5)).app (d6.same (u4.trans u5)))) rfl ?_
    have ld : ((List.map wantD (w0 :: ws')).drop 1).length < 20 := by rw [List.length_drop, lm]; omega
    have one : ∀ {x : D}, Ok x → isWant x = false → NW (.tup [.lst ([x] ++ (List.map wantD (w0 :: ws')).drop 1), .int 0]) := fun ox h => nw_int ⟨ox, okR⟩ (bad_head h ld)
    intro x hx
    simp only [List.cons_append, List.nil_append, List.mem_cons, List.not_mem_nil, or_false] at hx
    rcases hx with rfl | rfl | rfl | rfl | rfl | rfl | rfl | rfl | rfl
    · exact nw_non trivial rfl
    · exact nw_non trivial rfl
    · exact nw_non (show OkAll _ from okW) rfl
    · refine nw_non (d := .lst (List.map wantD (w0 :: ws') ++ _)) (OkAll.app okW (OkAll.of fun d hd => ?_)) ?_
      · obtain ⟨l, hl, hd⟩ := List.mem_flatten.mp hd
        have := List.eq_of_mem_replicate hl
        subst this
        have : d = .tup [.str (txt w0.1), .int 1] := by simpa using hd
        subst this
        exact ⟨okn, okI, trivial⟩
      · show (if 1 ≤ (List.map wantD (w0 :: ws') ++ _).length ∧ (List.map wantD (w0 :: ws') ++ _).length ≤ 20 then _ else some V.non) = _
        rw [if_neg]
        rw [List.length_append, lm, rep1_len]
        omega
    · exact one ⟨okn, trivial, trivial⟩ rfl
    · refine one ⟨okn, okI, trivial⟩ ?_
      show (isNm _ && decide ((0 : Int) ≤ -1 ∧ _)) = false
      rw [decide_eq_false (by omega), Bool.and_false]
    · exact one ⟨okn, okc, trivial⟩ rfl
    · have et : (List.map wantD (w0 :: ws')).take 19 = List.map wantD ((w0 :: ws').take 19) := by rw [List.map_take]
      have el : (if ((List.map wantD (w0 :: ws')).length : Int) < 19 then ((List.map wantD (w0 :: ws')).length : Int) else 19) = (((w0 :: ws').take 19).length : Nat) := by
        rw [lm, List.length_take, List.length_cons]
        split <;> omega
      have wt : WsOk ((w0 :: ws').take 19) := ⟨fun w hw => wo.all w (List.mem_of_mem_take hw), by rw [List.map_take]; exact wo.nd.sublist (List.take_sublist _ _)⟩
      have := bad_dup wt (by rw [List.length_take]; omega) (w := w0) (by simp) (x := .tup [.str (txt w0.1), .int w0.2]) rfl
      rw [el]
      refine nw_int (d := .lst (List.take 19 (List.map wantD (w0 :: ws')) ++ [.tup [.str (txt w0.1), .int w0.2]])) (OkAll.app (OkAll.take 19 okW) (show OkAll [D.tup [.str (txt w0.1), .int w0.2]] from ⟨⟨okn, okc, trivial⟩, trivial⟩)) ?_
      rw [et]
      exact this
    · refine one ⟨okS, okI, trivial⟩ ?_
      show (isNm (.str "A") && decide ((0 : Int) ≤ 1 ∧ (1 : Int) ≤ 1000000000)) = false
      rw [show isNm (.str "A") = false by decide +kernel, Bool.false_and]
end
end Dear

namespace Dear
open PySem PySem.Spec PyProof.Rows L2
/-! ### orders put, and put back -/
theorem idxN_at {is : List Nat} {o : Nat} (h : o ∈ is) : is[is.idxOf o]? = some o := by
  have hl := List.idxOf_lt_length_iff.mpr h
  rw [List.getElem?_eq_getElem hl, List.getElem_idxOf hl]
theorem idxN_of {is : List Nat} (nd : is.Nodup) {k o : Nat} (h : is[k]? = some o) : is.idxOf o = k := by
  obtain ⟨hl, e⟩ := List.getElem?_eq_some_iff.mp h
  have h2 := idxN_at (List.mem_of_getElem? h)
  obtain ⟨hl2, e2⟩ := List.getElem?_eq_some_iff.mp h2
  exact (List.getElem_inj nd).mp (e2.trans e.symm)
/-- the order's other way about -/
def backN (is : List Nat) : List Nat := (List.range is.length).map fun o => is.idxOf o
structure OrdN (is : List Nat) (n : Nat) : Prop where
  pm : is.Perm (List.range n)
theorem OrdN.len {is : List Nat} {n : Nat} (h : OrdN is n) : is.length = n := by rw [h.pm.length_eq, List.length_range]
theorem OrdN.nd {is : List Nat} {n : Nat} (h : OrdN is n) : is.Nodup := h.pm.nodup_iff.mpr List.nodup_range
theorem OrdN.mem {is : List Nat} {n o : Nat} (h : OrdN is n) (ho : o < n) : o ∈ is := h.pm.mem_iff.mpr (List.mem_range.mpr ho)
theorem OrdN.lt {is : List Nat} {n o : Nat} (h : OrdN is n) (ho : o ∈ is) : o < n := List.mem_range.mp (h.pm.mem_iff.mp ho)
theorem map_idx {is : List Nat} (nd : is.Nodup) : is.map (fun o => is.idxOf o) = List.range is.length := by
  apply List.ext_getElem?
  intro k
  by_cases hk : k < is.length
  · rw [List.getElem?_map, List.getElem?_range hk, List.getElem?_eq_getElem hk]
    show some (is.idxOf is[k]) = some k
    rw [idxN_of nd (List.getElem?_eq_getElem hk)]
  · rw [List.getElem?_eq_none (by rw [List.length_map]; omega), List.getElem?_eq_none (by rw [List.length_range]; omega)]
theorem OrdN.back {is : List Nat} {n : Nat} (h : OrdN is n) : OrdN (backN is) n := ⟨by
  unfold backN
  have e := map_idx h.nd
  have p := (h.pm.map fun o => is.idxOf o).symm
  rw [e] at p
  rw [h.len] at p ⊢
  exact p⟩
theorem backN_at {is : List Nat} {o : Nat} (h : o < is.length) : (backN is)[o]? = some (is.idxOf o) := by
  unfold backN
  rw [List.getElem?_map, List.getElem?_range h]
  rfl
/-- put so and put back: as it was -/
theorem PutSo.back {xs ys zs : List V} {is : List Nat} (h : OrdN is xs.length) (p : PutSo xs is ys) (q : PutSo ys (backN is) zs) : zs = xs := by
  apply List.ext_getElem?
  intro k
  by_cases hk : k < xs.length
  · have hk' : k < is.length := by rw [h.len]; exact hk
    have e := List.getElem?_eq_getElem hk'
    have ho := h.lt (List.mem_of_getElem? e)
    have h1 := p.put k _ e
    have h2 := q.put is[k] _ (backN_at (by rw [h.len]; exact ho))
    rw [idxN_of h.nd e] at h2
    rw [h2, h1]
  · rw [List.getElem?_eq_none (by rw [q.len, p.len]; omega), List.getElem?_eq_none (by omega)]
/-- what is put so has the same items -/
def putL {α : Type} (is : List Nat) (zs : List α) (d : α) : List α := (List.range zs.length).map fun o => zs.getD (is.idxOf o) d
theorem getD_at {α : Type} {zs : List α} {k : Nat} {d : α} (h : k < zs.length) : zs[k]? = some (zs.getD k d) := by
  rw [List.getD_eq_getElem?_getD, List.getElem?_eq_getElem h]
  rfl
theorem PutSo.eq {xs ys : List V} {is : List Nat} (h : OrdN is xs.length) (p : PutSo xs is ys) (d : V) : ys = putL is xs d := by
  apply List.ext_getElem?
  intro o
  unfold putL
  by_cases ho : o < xs.length
  · rw [List.getElem?_map, List.getElem?_range ho]
    have hm := h.mem ho
    have h1 := p.put _ _ (idxN_at hm)
    rw [h1]
    exact getD_at (by have := List.idxOf_lt_length_iff.mpr hm; rw [h.len] at this; exact this)
  · rw [List.getElem?_eq_none (by rw [p.len]; omega), List.getElem?_eq_none (by rw [List.length_map, List.length_range]; omega)]
theorem putL_perm {α : Type} {is : List Nat} {zs : List α} (h : OrdN is zs.length) (d : α) : (putL is zs d).Perm zs := by
  have e : zs = is.map fun o => zs.getD (is.idxOf o) d := by
    apply List.ext_getElem?
    intro k
    by_cases hk : k < zs.length
    · have hk' : k < is.length := by rw [h.len]; exact hk
      have e := List.getElem?_eq_getElem hk'
      rw [List.getElem?_map, e]
      show zs[k]? = some (zs.getD (is.idxOf is[k]) d)
      rw [idxN_of h.nd e]
      exact getD_at hk
    · rw [List.getElem?_eq_none (by omega), List.getElem?_eq_none (by rw [List.length_map, h.len]; omega)]
  have p := (h.pm.symm.map fun o => zs.getD (is.idxOf o) d)
  rw [← e] at p
  exact p
theorem DtAll.range {H : Hp} {f : Nat → V} {g : Nat → D} : ∀ l : List Nat, (∀ o ∈ l, Dt H (f o) (g o)) → DtAll H (l.map f) (l.map g)
  | [], _ => .nil
  | o :: l, h => .cons (h o List.mem_cons_self) (DtAll.range l fun x hx => h x (List.mem_cons_of_mem _ hx))
theorem PutSo.dt {H : Hp} {xs ys : List V} {is : List Nat} {ws : List (List Nat × Int)} (h : OrdN is xs.length) (p : PutSo xs is ys) (hd : DtAll H xs (ws.map wantD)) : DtAll H ys ((putL is ws ([], 0)).map wantD) := by
  have ln : xs.length = ws.length := by rw [hd.length, List.length_map]
  rw [p.eq h .non]
  unfold putL
  rw [List.map_map, ← ln]
  refine DtAll.range _ fun o ho => ?_
  have ho := List.mem_range.mp ho
  have hk : is.idxOf o < xs.length := by
    have := List.idxOf_lt_length_iff.mpr (h.mem ho)
    rw [h.len] at this
    exact this
  obtain ⟨d, hd1, hd2⟩ := hd.get (getD_at (d := V.non) hk)
  have e : (ws.map wantD)[is.idxOf o]? = some (wantD (ws.getD (is.idxOf o) ([], 0))) := by
    rw [List.getElem?_map, getD_at (d := (([], 0) : List Nat × Int)) (by omega)]
    rfl
  rw [e] at hd1
  injection hd1 with hd1
  show Dt H (xs.getD (is.idxOf o) V.non) (wantD (ws.getD (is.idxOf o) ([], 0)))
  rw [hd1]
  exact hd2
theorem WsOk.perm {ws us : List (List Nat × Int)} (h : WsOk ws) (p : us.Perm ws) : WsOk us := ⟨fun w hw => h.all w (p.mem_iff.mp hw), (p.map Prod.fst).nodup_iff.mpr h.nd⟩
theorem ordD_facts {is : List Nat} {n : Nat} (h : OrdN is n) (hn : n < 60) : Ok (ordD is) ∧ shortL (ordD is) := by
  constructor
  · rw [ordD_int]
    refine (ints_facts fun m hm => ?_).1
    obtain ⟨i, hi, rfl⟩ := List.mem_map.mp hm
    have := h.lt hi
    exact lt300 (Nat.lt_of_lt_of_le (show ((i : Nat) : Int).natAbs < 2 ^ 20 by omega) (by decide))
  · show (is.map _).length < 64
    rw [List.length_map, h.len]
    omega
section
variable {K : PySem.W.Frag} {H : Hp} {Q : VK} {E : XK}
theorem putB_good {C a b : Addr} {xs : List V} {is : List Nat} (ha : H a = some (.lst xs)) (hb : H b = some (.lst (vsN is))) (h : OrdN is xs.length) (hn : xs.length < 60)
    (k : ∀ (q : Addr) (ys : List V) (H' : Hp), H q = none → Same H H' → H' q = some (.lst ys) → PutSo xs is ys → Q (.ref q) H') : spPutBook C [.ref a, .ref b] H Q E := by
  obtain ⟨f1, f2⟩ := ordD_facts h hn
  refine ⟨a, .ref b, ordD is, rfl, ord_dt hb, f1, f2, xs, ha, by omega, fun no => absurd ⟨is, rfl, h.pm⟩ no, fun is' e _ => ?_⟩
  have e' : is = is' := by
    have inj : ∀ {a b : List Nat}, (a.map fun i => D.int (i : Nat)) = (b.map fun i => D.int (i : Nat)) → a = b := by
      intro a
      induction a with
      | nil => intro b h; cases b with
        | nil => rfl
        | cons _ _ => cases h
      | cons x a ih => intro b h; cases b with
        | nil => cases h
        | cons y b =>
          rw [List.map_cons, List.map_cons] at h
          injection h with h1 h2
          injection h1 with h1
          rw [show x = y by omega, ih h2]
    injection e with e
    exact inj e
  subst e'
  exact k
theorem putW_good {W C a b : Addr} {xs : List V} {is : List Nat} {ws : List (List Nat × Int)} (ha : H a = some (.lst xs)) (hd : DtAll H xs (ws.map wantD)) (wo : WsOk ws) (l1 : 1 ≤ ws.length) (l20 : ws.length ≤ 20) (hb : H b = some (.lst (vsN is))) (h : OrdN is ws.length)
    (k : ∀ (q : Addr) (ys : List V) (H' : Hp), H q = none → Same H H' → H' q = some (.lst ys) → PutSo xs is ys → Q (.ref q) H') : spPutWants W C [.ref a, .ref b] H Q E := by
  have ln : xs.length = ws.length := by rw [hd.length, List.length_map]
  have gd := wants_good wo l1 l20
  obtain ⟨a', v, e, e0, h1, h2, h3, h4⟩ := putB_good (Q := Q) (E := E) (C := C) ha hb (by rw [ln]; exact h) (by omega) k
  injection e0 with e1 e2
  injection e1 with e1
  injection e2 with e2
  subst e1
  subst e2
  refine ⟨.ref a, .ref b, .lst (ws.map wantD), e, rfl, .lst ha hd, (wants_facts wo.all).1, h1, h2, h3, fun m hm => (by rw [gd] at hm; cases hm), fun _ a' ea => ?_⟩
  injection ea with ea
  subst ea
  exact h4
theorem index_nat {l : Addr} {is : List Nat} {o : Nat} (hm : o ∈ is) (hl : H l = some (.lst (vsN is))) (q : Q (.int (is.idxOf o : Nat)) H) : rIndex K (.ref l) [.int (o : Nat)] H Q := by
  refine ⟨l, vsN is, .int (o : Nat), is.idxOf o, .int (o : Nat), rfl, rfl, SqL.of hl, rfl, ?_, vsN_get (idxN_at hm), ?_, ?_, q⟩
  · rw [List.all_eq_true]
    intro x hx
    obtain ⟨i, _, rfl⟩ := List.mem_map.mp hx
    rfl
  · show ((o : Nat) : Int) == ((o : Nat) : Int)
    exact beq_self_eq_true _
  · intro m z' lt hz'
    obtain ⟨y, hy, rfl⟩ := vsN_inv hz'
    refine beq_eq_false_iff_ne.mpr fun e => ?_
    have e : y = o := by omega
    subst e
    have := List.not_of_lt_findIdx (xs := is) (p := (· == y)) (i := m) lt
    obtain ⟨h1, h2⟩ := List.getElem?_eq_some_iff.mp hy
    simp [h2] at this
theorem ne_same {x y : V} {d : D} (h1 : Dt H x d) (h2 : Dt H y d) (f : Ok d ∧ NoD d ∧ dep d ≤ 64) (q : Q (.bl false) H) : rNeD K x y H Q := by
  have sh := shaped_py f.1 f.2.1 f.2.2
  refine ⟨py d, py d, h1.dp f.2.1, h2.dp f.2.1, sh, sh, ?_⟩
  rw [eqv_same sh]
  exact q
theorem eq_same {x y : V} {d : D} (h1 : Dt H x d) (h2 : Dt H y d) (f : Ok d ∧ NoD d ∧ dep d ≤ 64) (q : Q (.bl true) H) : rEqD K x y H Q := by
  have sh := shaped_py f.1 f.2.1 f.2.2
  refine ⟨py d, py d, h1.dp f.2.1, h2.dp f.2.1, sh, sh, ?_⟩
  rw [eqv_same sh]
  exact q
end
end Dear

namespace Dear
open PySem PySem.Spec PyProof.Rows L2
def tA (k : Nat) : List Nat := 97 :: repT [98] k
def tsA (n : Nat) : List (List Nat) := (List.range n).map tA
def tsD (n : Nat) : D := .lst ((tsA n).map fun t => D.str (txt t))
def vsA (n : Nat) : List V := (tsA n).map fun t => V.str (txt t)
theorem vsA_len (n : Nat) : (vsA n).length = n := by
  unfold vsA tsA
  rw [List.length_map, List.length_map, List.length_range]
theorem dt_vsA {H : Hp} : ∀ ts : List (List Nat), DtAll H (ts.map fun t => V.str (txt t)) (ts.map fun t => D.str (txt t))
  | [] => .nil
  | _ :: ts => .cons (.str _) (dt_vsA ts)
theorem tsD_facts {n : Nat} (h : n ≤ 20) : Ok (tsD n) ∧ NoD (tsD n) ∧ dep (tsD n) ≤ 64 := by
  refine ⟨?_, ?_, ?_⟩
  · refine OkAll.of fun d hd => ?_
    obtain ⟨t, ht, rfl⟩ := List.mem_map.mp hd
    obtain ⟨k, hk, rfl⟩ := List.mem_map.mp ht
    have hk := List.mem_range.mp hk
    refine ⟨?_, fun c hc => ?_⟩
    · rw [txt_length]
      unfold tA
      rw [List.length_cons, repT_len]
      show k * 1 + 1 ≤ 3000
      omega
    · rw [txt_list] at hc
      unfold tA repT at hc
      rcases List.mem_cons.mp hc with rfl | hc
      · decide
      · obtain ⟨l, hl, hc⟩ := List.mem_flatten.mp hc
        have := List.eq_of_mem_replicate hl
        subst this
        have : c = 98 := by simpa using hc
        subst this
        decide
  · refine noAll_of fun d hd => ?_
    obtain ⟨t, ht, rfl⟩ := List.mem_map.mp hd
    trivial
  · have := depAll_le (ds := (tsA n).map fun t => D.str (txt t)) (n := 0) fun d hd => by
      obtain ⟨t, ht, rfl⟩ := List.mem_map.mp hd
      exact Nat.le_refl _
    show depAll _ + 1 ≤ 64
    omega
section
variable {P : Program} {w : World} {K : PySem.W.Frag} {mg : Str → Option Value} {base : Heap}
theorem ok_law (T : Txt K mg) {f : Addr} {fd : FuncData} (F : Fun K "law" "law" s_law f fd) : FnOk P w K mg base CX0 8 f fd ["_law_script"] (spLaw K) := by
  have o__law_cell := o__law_cell (P := P) (w := w) (base := base) T
  have o__law_draws := o__law_draws (P := P) (w := w) (base := base) T
  have o__law_wants := o__law_wants (P := P) (w := w) (base := base) T
  have o__law_order := o__law_order (P := P) (w := w) (base := base) T
  have o__law_no_order := o__law_no_order (P := P) (w := w) (base := base) T
  have o__law_refused := o__law_refused (P := P) (w := w) (base := base) T
  have o__law_no_wants := o__law_no_wants (P := P) (w := w) (base := base) T
  have o__law_number := o__law_number (P := P) (w := w) (base := base) T
  have o_put_wants := o_put_wants (P := P) (w := w) (base := base) T
  have o_put_book := o_put_book (P := P) (w := w) (base := base) T
  refine F.ok c_law (fun vs H Q E h => ?_) (fun cdv A outer s H vs Q E hr h => ?_)
  · obtain ⟨a, ns, rfl, _⟩ := h
    rfl
  · obtain ⟨a, ns, rfl, hS, hlen, k⟩ := h
    refine ⟨_, (pss_cons (ps_set (i := 1) c_law.nd rfl (Or.inl rfl) (pe_c o__law_wants hr (pa_cons (pv 0) (pa_cons pe_int (pa_cons (pe_op op_add pe_int (pe_ix (ix_list_k K) (pe_c o__law_draws hr (pa_cons (pe_c o__law_cell hr (pa_cons (pv 0) (pa_cons pe_int pa_nil))) (pa_cons pe_int (pa_cons (pe_lst (pa_cons pe_int pa_nil)) pa_nil)))) pe_int (fun _ _ => rfl))) pa_nil)))))
(pss_cons (ps_setLc (i := 2) (own := [("_law_k", 4)]) (g := gName 4) (tt := tYes) (by rfl) c_law.nd rfl rfl (sw_true rfl rfl rfl (by decide +kernel)) (pi_range1 (by rfl) T.b_range (pa_cons (pe_callB (call_len_seq_k K) (by rfl) T.b_len PySem.boot_len (pa_cons (pv 1) pa_nil)) pa_nil)) (blkOk_by (own := [("_law_k", 4)]) (N := n_law) (sc := defScope s_law) (by decide +kernel)) (fun _ _ _ _ _ => (pg_name (i := 4) c_law.nd rfl (Or.inl rfl))) (fun _ _ _ _ _ => pts_nil) (fun _ _ _ _ _ => (pe_op op_add_str pe_str (pe_op op_repS pe_str (pv 4)))))
(pss_cons (ps_set (i := 3) c_law.nd rfl (Or.inl rfl) (pe_callTy (call_list_of_k K) (by rfl) T.b_list (by decide +kernel) (pa_cons (pv 1) pa_nil)))
(pss_cons (ps_for PassesOwn.never rfl (pi_enum (by rfl) T.b_enumerate (pa_cons (pe_op op_cat (pe_lst (pa_cons pe_int pa_nil)) (pe_slice (sl_list_k K) (pv 0) (po_some pe_int) (po_some pe_int))) pa_nil)) (pg_tup_k K (n := 2) rfl (pgs_cons (pg_name (i := 4) c_law.nd rfl (Or.inl rfl)) (pgs_cons (pg_name (i := 5) c_law.nd rfl (Or.inl rfl)) pgs_nil)))
(pss_cons (ps_set (i := 6) c_law.nd rfl (Or.inr rfl) (pe_c o__law_order hr (pa_cons (pv 5) (pa_cons (pe_op op_add pe_int (pv 4)) (pa_cons (pe_callB (call_len_seq_k K) (by rfl) T.b_len PySem.boot_len (pa_cons (pv 1) pa_nil)) pa_nil)))))
(C8.pss_cut (ps_if (pt_cmpR op_eq (pe_op op_mod (pv 4) pe_int) pe_int (nomark _))
(pss_one (ps_set (i := 6) c_law.nd rfl (Or.inr rfl) (pe_listRg rfl (by rfl) T.b_list (prg_1 (by rfl) T.b_range (pe_callB (call_len_seq_k K) (by rfl) T.b_len PySem.boot_len (pa_cons (pv 1) pa_nil))))))
pss_nil)
(pss_cons (ps_set (i := 7) c_law.nd rfl (Or.inr rfl) (pe_cx o_put_wants hr takes0 (pa_cons (pv 1) (pa_cons (pv 6) pa_nil))))
(pss_cons (ps_set (i := 8) c_law.nd rfl (Or.inr rfl) (pe_cx o_put_book hr takes0 (pa_cons (pv 2) (pa_cons (pv 6) pa_nil))))
(pss_cons (ps_if (PW.pt (pw_or (pt_cmpR (op_neD_k K hr.units) (pe_lc (own := [("_law_place", 13)]) (g := gName 13) (tt := tYes) (by rfl) c_law.nd (pi_list_k K (pv 6)) (blkOk_by (own := [("_law_place", 13)]) (N := n_law) (sc := defScope s_law) (by decide +kernel)) (fun _ _ _ _ _ => (pg_name (i := 13) c_law.nd rfl (Or.inl rfl))) (fun _ _ _ _ _ => pts_nil) (fun _ _ _ _ _ => (pe_ix (ix_list_k K) (pv 7) (pv 13) (fun _ _ => rfl)))) (pv 3) (nomark _)) (pw_or (pt_cmpR (op_neD_k K hr.units) (pe_lc (own := [("_law_place", 13)]) (g := gName 13) (tt := tYes) (by rfl) c_law.nd (pi_list_k K (pv 6)) (blkOk_by (own := [("_law_place", 13)]) (N := n_law) (sc := defScope s_law) (by decide +kernel)) (fun _ _ _ _ _ => (pg_name (i := 13) c_law.nd rfl (Or.inl rfl))) (fun _ _ _ _ _ => pts_nil) (fun _ _ _ _ _ => (pe_ix (ix_list_k K) (pv 8) (pv 13) (fun _ _ => rfl)))) (pv 2) (nomark _)) (pw_or1 (pt_cmpR (op_neD_k K hr.units) (pv 1) (pv 3) (nomark _))))))
(pss_one (ps_ret pe_bl))
pss_nil)
(pss_cons (ps_setLc (i := 9) (own := [("_law_place", 13)]) (g := gName 13) (tt := tYes) (by rfl) c_law.nd rfl rfl (sw_true rfl rfl rfl (by decide +kernel)) (pi_range1 (by rfl) T.b_range (pa_cons (pe_callB (call_len_seq_k K) (by rfl) T.b_len PySem.boot_len (pa_cons (pv 6) pa_nil)) pa_nil)) (blkOk_by (own := [("_law_place", 13)]) (N := n_law) (sc := defScope s_law) (by decide +kernel)) (fun _ _ _ _ _ => (pg_name (i := 13) c_law.nd rfl (Or.inl rfl))) (fun _ _ _ _ _ => pts_nil) (fun _ _ _ _ _ => (pe_bm_k K PySem.F.plainAttrs_list PySem.F.slot_list_index PySem.F.type_list_index (mt_index_k K) (pv 6) (pa_cons (pv 13) pa_nil))))
(pss_cons (ps_if (PW.pt (pw_or (pt_cmpR (op_neD_k K hr.units) (pe_cx o_put_wants hr takes0 (pa_cons (pv 7) (pa_cons (pv 9) pa_nil))) (pv 3) (nomark _)) (pw_or (pt_cmpR (op_neD_k K hr.units) (pe_cx o_put_book hr takes0 (pa_cons (pv 8) (pa_cons (pv 9) pa_nil))) (pv 2) (nomark _)) (pw_or1 (pt_cmpR op_ne (pe_callB (call_len_seq_k K) (by rfl) T.b_len PySem.boot_len (pa_cons (pv 7) pa_nil)) (pe_callB (call_len_seq_k K) (by rfl) T.b_len PySem.boot_len (pa_cons (pv 3) pa_nil)) (nomark _))))))
(pss_one (ps_ret pe_bl))
pss_nil)
(pss_cons (ps_expr (pe_bm0 PySem.F.plainAttrs_list PySem.F.slot_list_clear PySem.F.type_list_clear mt_clear (pv 7)))
(pss_cons (ps_expr (pe_bm PySem.F.plainAttrs_list PySem.F.slot_list_append PySem.F.type_list_append mt_append (pv 8) (pa_cons pe_str pa_nil)))
(pss_cons (ps_if (PW.pt (pw_or (pt_cmpR (op_neD_k K hr.units) (pv 1) (pv 3) (nomark _)) (pw_or (pt_cmpR op_ne (pe_callB (call_len_seq_k K) (by rfl) T.b_len PySem.boot_len (pa_cons (pv 2) pa_nil)) (pe_callB (call_len_seq_k K) (by rfl) T.b_len PySem.boot_len (pa_cons (pv 3) pa_nil)) (nomark _)) (pw_or1 (pt_cmpR op_ne (pe_callB (call_len_seq_k K) (by rfl) T.b_len PySem.boot_len (pa_cons (pe_cx o_put_book hr takes0 (pa_cons (pv 2) (pa_cons (pv 6) pa_nil))) pa_nil)) (pe_callB (call_len_seq_k K) (by rfl) T.b_len PySem.boot_len (pa_cons (pv 3) pa_nil)) (nomark _))))))
(pss_one (ps_ret pe_bl))
pss_nil)
(pss_cons (ps_set (i := 10) c_law.nd rfl (Or.inl rfl) (pe_c o__law_no_order hr (pa_cons (pv 6) (pa_cons (pv 5) (pa_cons (pe_op op_add pe_int (pv 4)) pa_nil)))))
(pss_cons (ps_if (pt_not (pt_val (pe_c o__law_refused hr (pa_cons (pe_ix (ix_list_k K) (pe_lst (pa_cons (pv 1) (pa_cons (pv 2) pa_nil))) (pe_op op_mod (pv 4) pe_int) (fun _ _ => rfl)) (pa_cons (pv 10) (pa_cons (pe_op op_mod (pv 4) pe_int) pa_nil))))))
(pss_one (ps_ret pe_bl))
pss_nil)
(pss_cons (ps_asg (pe_ix (ix_list_k K) (pe_c o__law_no_wants hr (pa_cons (pv 1) pa_nil)) (pe_ix (ix_list_k K) (pe_c o__law_draws hr (pa_cons (pv 5) (pa_cons (pe_op op_add pe_int (pv 4)) (pa_cons (pe_lst (pa_cons pe_int pa_nil)) pa_nil)))) pe_int (fun _ _ => rfl)) (fun _ _ => rfl)) (pg_tup_k K (n := 2) rfl (pgs_cons (pg_name (i := 11) c_law.nd rfl (Or.inl rfl)) (pgs_cons (pg_name (i := 12) c_law.nd rfl (Or.inl rfl)) pgs_nil))))
(pss_one (ps_if (pt_cmpR op_ne (pe_c o__law_number hr (pa_cons (pv 11) (pa_cons (pe_ix (ix_list_k K) (pe_lst (pa_cons (pv 6) (pa_cons (pv 10) pa_nil))) (pe_op op_mod (pv 4) pe_int) (fun _ _ => rfl)) pa_nil))) (pv 12) (nomark _))
(pss_one (ps_ret pe_bl))
pss_nil))))))))))))))))
(pss_one (ps_ret (pe_cmpR (op_eqD_k K hr.units) (pe_cx o_put_book hr takes0 (pa_cons (pe_lst pa_nil) (pa_cons (pe_lst pa_nil) pa_nil))) (pe_lst pa_nil) (nomark _)))))))), ?_⟩
    refine ⟨_, rfl, _, rfl, a, ns, 0, rfl, hS, by decide, fun z => ⟨(by show 1 ≤ sizeLine; decide), fun p0 hp0 => ?_⟩⟩
    have u0 := Same.upd (o := .lst [V.int 20]) hp0
    refine ⟨z, 0, p0, [20], rfl, SqL.of upd_same, by decide, by decide, fun p1 rs H1 hp1 s1 e1 dr => ?_⟩
    obtain ⟨r, rfl, r0, r1⟩ := dr.one
    obtain ⟨m, rfl⟩ := Int.eq_ofNat_of_zero_le r0
    have s01 := u0.trans s1
    refine ⟨_, _, _, _, rfl, rfl, SqL.of e1, rfl, _, _, rfl, rfl, ?_⟩
    dsimp only [tNil, tCons]
    rw [show (1 + ((m : Nat) : Int)) = ((m + 1 : Nat) : Int) by omega]
    refine ⟨a, ns, 1, m + 1, rfl, s01.seq hS, by decide, by omega, fun pW xs ws H2 hpW s2 hW hd wo wl => ?_⟩
    have n1 : 1 ≤ ws.length := by omega
    have n20 : ws.length ≤ 20 := by omega
    have lx : xs.length = ws.length := by rw [hd.length, List.length_map]
    have s02 := s01.trans s2
    refine ⟨_, rfl, pW, _, rfl, .inl (SqL.of hW), _, rfl, by omega, by omega, fun pT hT => lc_range (lo := 0) (n := xs.length) (fun i H' => Same H2 H' ∧ H' pT = some (.lst (vsA i))) ⟨Same.upd hT, upd_same⟩ ?_ ?_⟩
    · rintro i H' hi ⟨s3, e3⟩
      rw [Int.zero_add]
      refine ⟨rfl, _, rfl, [98], (i : Nat), rfl, rfl, by omega, by omega, by decide, _, _, rfl, rfl, ?_, _, e3, ?_, ?_, ?_⟩
      · rw [txt_length, repT_len, Int.toNat_natCast]
        exact sz_lit (by show 1 + i * 1 ≤ 1000; omega)
      · rw [vsA_len]
        exact small1000 (by omega)
      · intro b o hb
        rw [upd_ne (ne_of_none hb hT)]
        exact s3 _ _ hb
      · rw [upd_same, Int.toNat_natCast]
        unfold vsA tsA
        rw [List.range_succ, List.map_append, List.map_append]
        rw [show (("a" : Str) ++ txt (repT [98] i)) = txt (tA i) from txt_app [97] _]
        rfl
    rintro H3 ⟨s3, e3⟩
    refine ⟨_, rfl, pW, xs, rfl, .inl (SqL.of (s3 _ _ hW)), fun pK hK => ?_⟩
    have u4 := Same.upd (o := .lst xs) hK
    have e4 : (upd H3 pK (.lst xs)) pK = some (.lst xs) := upd_same
    generalize upd H3 pK (.lst xs) = H4 at u4 e4 ⊢
    have s04 := s02.trans (s3.trans u4)
    refine ⟨(by show 1 ≤ sizeLine; decide), fun p5 hp5 => ?_⟩
    have u5 := Same.upd (o := .lst [V.int 0]) hp5
    have e5 : (upd H4 p5 (.lst [V.int 0])) p5 = some (.lst [V.int 0]) := upd_same
    generalize upd H4 p5 (.lst [V.int 0]) = H5 at u5 e5 ⊢
    refine ⟨_, rfl, _, rfl, _, rfl, a, _, rfl, (s04.trans u5).seq hS, fun p6 hp6 => ?_⟩
    have cl : (cutV (ns.map V.int) (some 2) (some 40)).length ≤ 63 := by
      have := cutV_length (ns.map V.int) (some 2) (some 40)
      rw [List.length_map] at this
      omega
    have ci : ∀ v ∈ [V.int 0] ++ cutV (ns.map V.int) (some 2) (some 40), ∃ z, v = .int z := fun v hv => by
      rcases List.mem_append.mp hv with hv | hv
      · exact ⟨0, by simpa using hv⟩
      · obtain ⟨z, _, rfl⟩ := List.mem_map.mp (mem_cut hv)
        exact ⟨z, rfl⟩
    generalize cutV (ns.map V.int) (some 2) (some 40) = cs at cl ci ⊢
    have u6 := Same.upd (o := .lst cs) hp6
    have e6 : (upd H5 p6 (.lst cs)) p6 = some (.lst cs) := upd_same
    generalize upd H5 p6 (.lst cs) = H6 at u6 e6 ⊢
    refine ⟨p5, p6, _, _, rfl, rfl, u6 _ _ e5, e6, sz_lit (by show 1 + _ ≤ 1000; omega), fun p7 hp7 => ?_⟩
    have u7 := Same.upd (o := .lst ([V.int 0] ++ cs)) hp7
    have e7 : (upd H6 p7 (.lst ([V.int 0] ++ cs))) p7 = some (.lst ([V.int 0] ++ cs)) := upd_same
    generalize upd H6 p7 (.lst ([V.int 0] ++ cs)) = H7 at u7 e7 ⊢
    have s47 := (u5.trans u6).trans u7
    have hW7 := s47 _ _ (u4 _ _ (s3 _ _ hW))
    have hd7 := hd.same ((s3.trans u4).trans s47)
    have hT7 := s47 _ _ (u4 _ _ e3)
    have hK7 := s47 _ _ e4
    rw [lx] at hT7
    have fW := wants_facts wo.all
    have fT := tsD_facts n20
    have lE : ([V.int 0] ++ cs).length ≤ 64 := by show cs.length + 1 ≤ 64; omega
    clear s47 u7 u6 u5 s04 s02 s01 hS
    refine ⟨p7, _, rfl, SqL.of e7, for_it walk_enum (fun i σ H' => Same H7 H' ∧ ∃ v4 v5 v6 v7 v8 v9 v10 v11 v12 v13, σ = [some (.ref a), some (.ref pW), some (.ref pT), some (.ref pK), v4, v5, v6, v7, v8, v9, v10, v11, v12, v13])
      ⟨Same.refl _, _, _, _, _, _, _, _, _, _, _, rfl⟩ (fun i σ H' _ h => SqL.of (h.1 _ _ e7)) ?_ ?_⟩
    · rintro i y σ H8 H8' hi ⟨s8, v4, v5, v6, v7, v8, v9, v10, v11, v12, v13, rfl⟩ ⟨tp, y1, y2, rfl, htp, rfl, hy1, hy2⟩
      injection hy1 with hy1
      subst hy1
      obtain ⟨z, rfl⟩ := ci _ (List.mem_of_getElem? hy2)
      have i64 : i < 64 := by omega
      have u9 := Same.upd (o := .tup [V.int (i : Nat), V.int z]) htp
      have e9 : (upd H8 tp (.tup [V.int (i : Nat), V.int z])) tp = some (.tup [V.int (i : Nat), V.int z]) := upd_same
      generalize upd H8 tp (.tup [V.int (i : Nat), V.int z]) = H9 at u9 e9 ⊢
      have s9 := s8.trans u9
      refine ⟨tp, _, rfl, SqT.of e9, rfl, _, _, rfl, _, _, rfl, rfl, ?_⟩
      have ex := lx
      refine ⟨_, rfl, _, rfl, _, _, rfl, rfl, _, rfl, pW, _, rfl, .inl (SqL.of (s9 _ _ hW7)), ?_⟩
      dsimp only [tNil, tCons]
      rw [lx]
      refine ⟨z, _, ws.length, rfl, n20, fun pO is H10 hpO s10 e10 pm => ?_⟩
      refine ⟨fun σ' H' => Same H9 H' ∧ ∃ (pO : Addr) (is : List Nat) (v7 v8 v9 v10 v11 v12 v13 : Option V), σ' = [some (.ref a), some (.ref pW), some (.ref pT), some (.ref pK), some (.int (i : Nat)), some (.int z), some (.ref pO), v7, v8, v9, v10, v11, v12, v13] ∧ H' pO = some (.lst (vsN is)) ∧ OrdN is ws.length, ?_, ?_⟩
      · refine ⟨_, rfl, _, _, rfl, rfl, (by show (0 : Int) < 8; decide), rfl, _, rfl, itd (fun c => ?_) fun c => ?_⟩
        · have h10 := s10 _ _ (s9 _ _ hW7)
          refine ⟨_, rfl, pW, _, rfl, .inl (SqL.of h10), _, rfl, ⟨by omega, by omega, by omega, by omega, by omega⟩, fun pR hR => ?_⟩
          refine ⟨s10.trans (Same.upd hR), pR, List.range ws.length, _, _, _, _, _, _, _, rfl, ?_, ⟨List.Perm.refl _⟩⟩
          rw [upd_same, rgV_0, lx, vsN_int]
          rfl
        · exact ⟨s10, pO, is, _, _, _, _, _, _, _, rfl, e10, ⟨pm⟩⟩
      clear e10 pm hpO s10 is H10 pO
      rintro σ' H10 ⟨s10, pO, is, v7, v8, v9, v10, v11, v12, v13, rfl, hO, od⟩
      have odx : OrdN is xs.length := by rw [lx]; exact od
      have s710 := s9.trans s10
      have li := od.len
      have hW10 := s710 _ _ hW7
      have hd10 := hd7.same s710
      refine ⟨_, rfl, _, rfl, ?_⟩
      dsimp only [tNil, tCons]
      refine putW_good hW10 hd10 wo n1 n20 hO od fun pA ys H11 hpA s11 hA ps => ?_
      refine ⟨_, rfl, _, rfl, ?_⟩
      dsimp only [tNil, tCons]
      have hT11 := s11 _ _ (s710 _ _ hT7)
      refine putB_good hT11 (s11 _ _ hO) (by rw [vsA_len]; exact od) (by rw [vsA_len]; omega) fun pB bs H12 hpB s12 hB pb => ?_
      have s1012 := s11.trans s12
      have s712 := s710.trans s1012
      have hO12 := s1012 _ _ hO
      have hA12 := s12 _ _ hA
      have lv := vsA_len ws.length
      have get : ∀ {j : Nat} {x : V}, (vsN is)[j]? = some x → ∃ o : Nat, x = .int (o : Nat) ∧ is[j]? = some o ∧ j < ws.length := fun {j x} h => by
        obtain ⟨o, ho, rfl⟩ := vsN_inv h
        exact ⟨o, rfl, ho, by rw [← li]; exact (List.getElem?_eq_some_iff.mp ho).1⟩
      -- the wants told, by the order
      refine ⟨_, rfl, pO, rfl, ⟨_, SqL.of hO12⟩, fun pD hD => lc_list (K := K) (a := pO) (xs := vsN is) (fun j H' => Same H12 H' ∧ H' pD = some (.lst (xs.take j))) ⟨Same.upd hD, upd_same⟩ (fun j H' _ e => SqL.of (e.1 _ _ hO12)) ?_ ?_⟩
      · rintro j x H' hx ⟨sj, ej⟩
        obtain ⟨o, rfl, ho, jl⟩ := get hx
        have hj : xs[j]? = some xs[j] := List.getElem?_eq_getElem (by omega)
        have hy := ps.put j o ho
        rw [hj] at hy
        refine ⟨rfl, _, rfl, _, rfl, _, _, _, _, rfl, rfl, SqL.of (sj _ _ hA12), atI_nat hy, _, ej, ?_, ?_, ?_⟩
        · rw [List.length_take]
          exact small1000 (by omega)
        · intro b o' hb
          rw [upd_ne (ne_of_none hb hD)]
          exact sj _ _ hb
        · rw [upd_same, take_more hj]
      rintro H13 ⟨s13, e13⟩
      rw [vsN_len, li, List.take_of_length_le (by omega)] at e13
      have s713 := s712.trans s13
      have hd13 := hd7.same s713
      refine ⟨_, rfl, ne_same (.lst e13 hd13) (.lst (s713 _ _ hK7) hd13) fW ⟨_, rfl, iteF ?_⟩⟩
      -- the texts told, by the order
      have hB13 := s13 _ _ hB
      have hO13 := s13 _ _ hO12
      refine ⟨_, rfl, pO, rfl, ⟨_, SqL.of hO13⟩, fun pD2 hD2 => lc_list (K := K) (a := pO) (xs := vsN is) (fun j H' => Same H13 H' ∧ H' pD2 = some (.lst ((vsA ws.length).take j))) ⟨Same.upd hD2, upd_same⟩ (fun j H' _ e => SqL.of (e.1 _ _ hO13)) ?_ ?_⟩
      · rintro j x H' hx ⟨sj, ej⟩
        obtain ⟨o, rfl, ho, jl⟩ := get hx
        have hj : (vsA ws.length)[j]? = some (vsA ws.length)[j] := List.getElem?_eq_getElem (by omega)
        have hy := pb.put j o ho
        rw [hj] at hy
        refine ⟨rfl, _, rfl, _, rfl, _, _, _, _, rfl, rfl, SqL.of (sj _ _ hB13), atI_nat hy, _, ej, ?_, ?_, ?_⟩
        · rw [List.length_take]
          exact small1000 (by omega)
        · intro b o' hb
          rw [upd_ne (ne_of_none hb hD2)]
          exact sj _ _ hb
        · rw [upd_same, take_more hj]
      rintro H14 ⟨s14, e14⟩
      rw [vsN_len, li, List.take_of_length_le (by omega)] at e14
      have s714 := s713.trans s14
      have hd14 := hd7.same s714
      have dT : ∀ {H' : Hp} {p : Addr}, H' p = some (.lst (vsA ws.length)) → Dt H' (.ref p) (tsD ws.length) := fun h => .lst h (dt_vsA _)
      refine ⟨_, rfl, ne_same (dT e14) (dT (s714 _ _ hT7)) fT ⟨_, rfl, iteF ?_⟩⟩
      refine ⟨_, rfl, _, rfl, ne_same (.lst (s714 _ _ hW7) hd14) (.lst (s714 _ _ hK7) hd14) fW ⟨_, rfl, iteF ?_⟩⟩
      -- the other way about
      have hO14 := s14 _ _ hO13
      refine ⟨_, rfl, pO, _, rfl, .inl (SqL.of hO14), _, rfl, by omega, by rw [vsN_len]; omega, fun pI hI => lc_range (lo := 0) (n := (vsN is).length) (fun j H' => Same H14 H' ∧ H' pI = some (.lst (vsN ((backN is).take j)))) ⟨Same.upd hI, upd_same⟩ ?_ ?_⟩
      · rintro j H' hj ⟨sj, ej⟩
        rw [Int.zero_add]
        rw [vsN_len] at hj
        have bk := backN_at hj
        refine ⟨rfl, _, rfl, .inl ⟨rfl, _, SqL.of (sj _ _ hO14)⟩, _, rfl, ?_⟩
        dsimp only [tNil, tCons]
        refine index_nat (od.mem (by omega)) (sj _ _ hO14) ⟨_, ej, ?_, ?_, ?_⟩
        · rw [vsN_len, List.length_take]
          exact small1000 (by omega)
        · intro b o' hb
          rw [upd_ne (ne_of_none hb hI)]
          exact sj _ _ hb
        · rw [upd_same, take_more bk]
          unfold vsN
          rw [List.map_append]
          rfl
      rintro H15 ⟨s15, e15⟩
      have odb := od.back
      rw [vsN_len, List.take_of_length_le (by rw [odb.len]; omega)] at e15
      have s1215 := (s13.trans s14).trans s15
      have s715 := s714.trans s15
      have hA15 := s1215 _ _ hA12
      have hB15 := s1215 _ _ hB
      have hdA : DtAll H15 ys _ := (ps.dt odx (hd7.same s715))
      have pmA := putL_perm od (([], 0) : List Nat × Int)
      have lA : (putL is ws ([], 0)).length = ws.length := pmA.length_eq
      refine ⟨_, rfl, _, rfl, ?_⟩
      dsimp only [tNil, tCons]
      refine putW_good hA15 hdA (wo.perm pmA) (by omega) (by omega) e15 (by rw [lA]; exact odb) fun pC zs H16 hpC s16 hC pc => ?_
      have ez := PutSo.back odx ps pc
      rw [ez] at hC
      have s716 := s715.trans s16
      have hd16 := hd7.same s716
      refine ⟨_, rfl, ne_same (.lst hC hd16) (.lst (s716 _ _ hK7) hd16) fW ⟨_, rfl, iteF ?_⟩⟩
      refine ⟨_, rfl, _, rfl, ?_⟩
      dsimp only [tNil, tCons]
      have lb : bs.length = ws.length := by rw [pb.len, lv]
      refine putB_good (s16 _ _ hB15) (s16 _ _ e15) (by rw [lb]; exact odb) (by omega) fun pE es H17 hpE s17 hE pe => ?_
      have ee := PutSo.back (by rw [lv]; exact od) pb pe
      subst ee
      have s717 := s716.trans s17
      have s1517 := s16.trans s17
      refine ⟨_, rfl, ne_same (dT hE) (dT (s717 _ _ hT7)) fT ⟨_, rfl, iteF ?_⟩⟩
      have hA17 := s1517 _ _ hA15
      have hB17 := s1517 _ _ hB15
      refine ⟨_, rfl, pA, _, rfl, .inl (SqL.of hA17), _, rfl, pK, _, rfl, .inl (SqL.of (s717 _ _ hK7)), rfl, _, rfl, itnd (fun c => absurd (by rw [ps.len]) c) fun _ => ?_⟩
      refine ⟨_, rfl, .inl ⟨rfl, _, SqL.of hA17⟩, pA, ys, rfl, rfl, hA17, ?_⟩
      have nAB : pB ≠ pA := fun e => by
        subst e
        rw [hA] at hpB
        cases hpB
      have hB18 : (upd H17 pA (.lst [])) pB = some (.lst bs) := by rw [upd_ne nAB]; exact hB17
      refine ⟨_, rfl, .inl ⟨rfl, _, SqL.of hB18⟩, pB, _, _, rfl, rfl, hB18, small1000 (by omega), ?_⟩
      have hpB10 := same_none s11 hpB
      have s1017 : Same H10 H17 := s1012.trans (s1215.trans s1517)
      have s1019 : Same H10 (upd (upd H17 pA (.lst [])) pB (.lst (bs ++ [.str "a"]))) := fun b o hb => by
        rw [upd_ne (ne_of_none hb hpB10), upd_ne (ne_of_none hb hpA)]
        exact s1017 _ _ hb
      generalize upd (upd H17 pA (.lst [])) pB (.lst (bs ++ [.str "a"])) = H19 at s1019 ⊢
      have s719 := s710.trans s1019
      have hd19 := hd7.same s719
      have hW19 := s719 _ _ hW7
      have hK19 := s719 _ _ hK7
      have hT19 := s719 _ _ hT7
      have hO19 := s1019 _ _ hO
      clear s1017 s1517 s1215 s717 s716 s715 s714 s713 s712
      refine ⟨_, rfl, _, rfl, ne_same (.lst hW19 hd19) (.lst hK19 hd19) fW ⟨_, rfl, iteF ?_⟩⟩
      refine ⟨_, rfl, pT, _, rfl, .inl (SqL.of hT19), _, rfl, pK, _, rfl, .inl (SqL.of hK19), rfl, _, rfl, itnd (fun c => absurd (by rw [lv, lx]) c) fun _ => ?_⟩
      refine ⟨_, rfl, _, rfl, ?_⟩
      dsimp only [tNil, tCons]
      refine putB_good hT19 hO19 (by rw [lv]; exact od) (by omega) fun pF fs H20 hpF s20 hF pf => ?_
      have s720 := s719.trans s20
      refine ⟨pF, _, rfl, .inl (SqL.of hF), _, rfl, pK, _, rfl, .inl (SqL.of (s20 _ _ hK19)), rfl, _, rfl, itnd (fun c => absurd (by rw [pf.len, lv, lx]) c) fun _ => ?_⟩
      have hO20 := s20 _ _ hO19
      refine ⟨_, rfl, _, rfl, _, rfl, _, _, rfl, rfl, pO, z, _, is, ws.length, rfl, hO20, od.pm, n1, n20, fun v e H21 s21 dv okv shv nov => ?_⟩
      have s721 := s720.trans s21
      have hW21 := s721 _ _ hW7
      have hT21 := s721 _ _ hT7
      have two : (i : Int) % 2 = 0 ∨ (i : Int) % 2 = 1 := by omega
      refine ⟨_, rfl, _, rfl, (by show 2 ≤ sizeLine; decide), fun q1 hq1 => ?_⟩
      have u22 := Same.upd (o := .lst [.ref pW, .ref pT]) hq1
      have e22 : (upd H21 q1 (.lst [.ref pW, .ref pT])) q1 = some (.lst [.ref pW, .ref pT]) := upd_same
      generalize upd H21 q1 (.lst [.ref pW, .ref pT]) = H22 at u22 e22 ⊢
      have s722 := s721.trans u22
      obtain ⟨av, vv, hav, hvv, lvv, hw0⟩ : ∃ (av : Addr) (vv : List V), atI [V.ref pW, .ref pT] ((i : Int) % 2) = some (.ref av) ∧ H22 av = some (.lst vv) ∧ vv.length = ws.length ∧ ((i : Int) % 2 = 0 → ∃ d, Dt H22 (.ref av) d ∧ Ok d ∧ wantsBad d = none) := by
        rcases two with e | e
        · exact ⟨pW, xs, by rw [e]; rfl, s722 _ _ hW7, lx, fun _ => ⟨_, .lst (s722 _ _ hW7) (hd7.same s722), fW.1, wants_good wo n1 n20⟩⟩
        · exact ⟨pT, _, by rw [e]; rfl, s722 _ _ hT7, lv, fun z => by omega⟩
      refine ⟨_, rfl, _, _, rfl, rfl, (by show (0 : Int) < 2; decide), _, _, _, _, rfl, rfl, SqL.of e22, hav, _, rfl, _, rfl, _, _, rfl, rfl, (by show (0 : Int) < 2; decide), av, v, e, _, vv, rfl, dv.same u22, okv, shv, hvv, by omega, (by rw [lvv]; exact nov), hw0, fun H23 s23 => ⟨_, rfl, iteF ?_⟩⟩
      have s723 := s722.trans s23
      have hW23 := s723 _ _ hW7
      refine ⟨_, rfl, pW, xs, ws, rfl, hW23, hd7.same s723, wo, n1, n20, fun q2 us ds H24 s24 e24 d24 l9 nw => ?_⟩
      refine ⟨_, rfl, _, rfl, _, _, rfl, rfl, (by show 1 ≤ sizeLine; decide), fun q3 hq3 => ?_⟩
      have u25 := Same.upd (o := .lst [V.int 9]) hq3
      refine ⟨z, _, q3, [9], rfl, SqL.of upd_same, by decide, by decide, fun q4 rs H26 hq4 s26 e26 dr => ?_⟩
      obtain ⟨r, rfl, r0, r1⟩ := dr.one
      have s2426 := u25.trans s26
      obtain ⟨x, hx, _, hx2⟩ := at_lt (xs := us) (r := r) r0 (by rw [d24.length, l9]; exact r1)
      obtain ⟨dx, hdx, dtx⟩ := (d24.same s2426).get hx2
      obtain ⟨d1, nd, mv, rfl, okd, bad, hnd, sc⟩ := nw dx (List.mem_of_getElem? hdx)
      obtain ⟨tx, zs2, rfl, htx, hz2⟩ := dtx.tupAt
      obtain ⟨u1, hu1, ez2⟩ : ∃ u1, Dt H26 u1 d1 ∧ zs2 = [u1, mv] := by
        cases hz2 with
        | cons h1 h2 =>
          cases h2 with
          | cons h3 h4 =>
            cases h4
            exact ⟨_, h1, by rw [hnd _ _ h3]⟩
      subst ez2
      refine ⟨_, _, _, _, rfl, rfl, SqL.of e26, rfl, _, _, _, _, rfl, rfl, SqL.of (s2426 _ _ e24), hx, tx, _, rfl, SqT.of htx, rfl, _, _, rfl, _, _, rfl, rfl, ?_⟩
      have s2126 : Same H21 H26 := u22.trans (s23.trans (s24.trans s2426))
      have s726 := s721.trans s2126
      refine ⟨_, rfl, _, rfl, _, rfl, (by show 2 ≤ sizeLine; decide), fun q5 hq5 => ?_⟩
      have u27 := Same.upd (o := .lst [.ref pO, v]) hq5
      have e27 : (upd H26 q5 (.lst [.ref pO, v])) q5 = some (.lst [.ref pO, v]) := upd_same
      generalize upd H26 q5 (.lst [.ref pO, v]) = H27 at u27 e27 ⊢
      have s2127 := s2126.trans u27
      obtain ⟨fo1, fo2⟩ := ordD_facts od (by omega)
      obtain ⟨v2, ed, hv2, dv2, ok2, sh2⟩ : ∃ (v2 : V) (ed : D), atI [V.ref pO, v] ((i : Int) % 2) = some v2 ∧ Dt H27 v2 ed ∧ Ok ed ∧ shortL ed := by
        rcases two with e | e
        · exact ⟨.ref pO, ordD is, by rw [e]; rfl, ord_dt (s2127 _ _ (s21 _ _ hO20)), fo1, fo2⟩
        · exact ⟨v, _, by rw [e]; rfl, dv.same s2127, okv, shv⟩
      refine ⟨_, rfl, _, _, rfl, rfl, (by show (0 : Int) < 2; decide), _, _, _, _, rfl, rfl, SqL.of e27, hv2, u1, v2, d1, ed, mv, rfl, hu1.same u27, okd, bad, dv2, ok2, sh2, fun H28 s28 => ?_⟩
      refine ⟨_, rfl, sc, _, rfl, itnd (fun c => absurd rfl c) fun _ => ?_⟩
      exact ⟨(s726.trans u27).trans s28, _, _, _, _, _, _, _, _, _, _, rfl⟩
    · rintro σ H8 ⟨s8, v4, v5, v6, v7, v8, v9, v10, v11, v12, v13, rfl⟩
      refine ⟨(by show 0 ≤ sizeLine; decide), fun q1 hq1 => ⟨(by show 0 ≤ sizeLine; decide), fun q2 hq2 => ?_⟩⟩
      have w1 := Same.upd (o := .lst []) hq1
      have g1 : (upd H8 q1 (.lst [])) q1 = some (.lst []) := upd_same
      generalize upd H8 q1 (.lst []) = H9 at w1 g1 hq2 ⊢
      have w2 := Same.upd (o := .lst []) hq2
      have g2 : (upd H9 q2 (.lst [])) q2 = some (.lst []) := upd_same
      generalize upd H9 q2 (.lst []) = H10 at w2 g2 ⊢
      dsimp only [tNil, tCons]
      refine putB_good (xs := []) (is := []) (w2 _ _ g1) g2 ⟨List.Perm.refl _⟩ (by decide) fun q ys H11 hq s11 hy ps => ?_
      have y0 : ys = [] := List.eq_nil_of_length_eq_zero ps.len
      subst y0
      refine ⟨(by show 0 ≤ sizeLine; decide), fun q3 hq3 => ?_⟩
      exact eq_same (d := .lst []) (.lst (Same.upd hq3 _ _ hy) .nil) (.lst upd_same .nil) ⟨trivial, trivial, by decide⟩ (k _)
end
end Dear

namespace Dear
open PySem PySem.Spec PyProof.Rows L2
theorem walk {l : PySem.W.OpenLaw} {q : Program} {loose : List Str} {XP : (Str → Option Value) → Heap → Prop} {YP : World → Heap → Prop} {d : DefRec} {K : Params → PySem.W.Frag} (hn : l.most = some 63) (hdf : d.params.defaults = [])
    (hY : ∀ (w : World) (h : Heap), YP w h → (K w.params).In h)
    (F : ∀ (w : World) (mg : Str → Option Value) (fa : Addr) (h : Heap), (K w.params).In h → h.Ns mainGlobals mg → mg d.name = some (.ref fa) →
      ∃ fd : FuncData, (∀ (s : Shared) (u : Value), BindsTo s fd ⟨[u], []⟩ [("_law_script", u)]) ∧ ∀ base : Heap, (K w.params).In base → base.Ns mainGlobals mg → FnOk l.prog w (K w.params) mg base CX0 20 fa fd ["_law_script"] (spLaw (K w.params))) :
    PySem.W.WalkO q loose XP YP l.row.toRowW d [] (fun f vs => PySem.call f vs) :=
  L2.walk_of (n := 63) (k := 20) (x := "_law_script") (CX := fun _ => CX0) (sp := fun w => spLaw (K w.params)) hn (by decide) hdf ⟨rfl, by decide, by decide⟩ hY F (fun _ _ a ns hl _ hS => ⟨a, ns, rfl, hS, hl, fun _ => rfl⟩) fun _ _ _ _ _ z => z
theorem fin {l : PySem.W.OpenLaw} {w : World} {K : PySem.W.Frag} {h : Heap} {mg : Str → Option Value} {fa : Addr} (X : K.In h) (G : h.Ns mainGlobals mg) (hfa : mg "law" = some (.ref fa)) (T : Txt K mg) :
    ∃ fd : FuncData, (∀ (s : Shared) (v : Value), BindsTo s fd ⟨[v], []⟩ [("_law_script", v)]) ∧ ∀ base : Heap, K.In base → base.Ns mainGlobals mg → FnOk l.prog w K mg base CX0 20 fa fd ["_law_script"] (spLaw K) := by
  obtain ⟨f, fd, hm, F, hb⟩ := id T.f_law
  have e := hfa.symm.trans hm
  cases e
  refine ⟨fd, fun s v => ?_, fun base _ _ => (ok_law T F).mono (by decide)⟩
  obtain ⟨oc, od, kV, doc, pm, an, cdv, ct, osl, rfl, lk, hcd⟩ := F.ex
  exact .of_eq rfl
end Dear

open PySem PySem.W PyProof.Rows
set_option maxRecDepth 100000 in
set_option maxHeartbeats 0 in
theorem PySem.Challenge.cw_dearsigns_k58_orders_of_things_holds : PySem.Challenge.rw_dearsigns_k58_orders_of_things.Holds := by
  w_on; o_law; k_head; (case hw => w_witness2)
  k_fill
  refine Dear.walk (l := PySem.Challenge.rw_dearsigns_k58_orders_of_things) rfl rfl (fun w h Y => PySem.W.kIn_of Y) ?F
  case F =>
    intro w mg fa h KX G hmg
    refine Dear.fin KX G hmg ?T
    case T =>
      refine' Dear.txt_mk KX G ?g_DearError ?i_DearError ?t_DearError ?g_NoNumber ?i_NoNumber ?t_NoNumber ?g_NoBook ?i_NoBook ?t_NoBook ?g_NoTree ?i_NoTree ?t_NoTree ?g_TooMany ?i_TooMany ?t_TooMany ?g_NoCount ?i_NoCount ?t_NoCount ?g_NoUndo ?i_NoUndo ?t_NoUndo ?g_NoTurn ?i_NoTurn ?t_NoTurn ?g_NoRow ?i_NoRow ?t_NoRow ?g_Unknown ?i_Unknown ?t_Unknown ?g_NoTongue ?i_NoTongue ?t_NoTongue ?g_NoWants ?i_NoWants ?t_NoWants ?g_NoThing ?i_NoThing ?t_NoThing ?g_BadSign ?i_BadSign ?t_BadSign ?g_NoText ?i_NoText ?t_NoText ?b_DearError ?x1_NoTurn ?x2_NoTurn ?x3_NoTurn ?x4_NoTurn ?x5_NoTurn ?x6_NoTurn ?x7_NoTurn ?x8_NoTurn ?x9_NoTurn ?x10_NoTurn ?x11_NoTurn ?d1 ?d2 ?d3 ?xl_NoWants ?sa_NoWants ?x2_NoWants ?x3_NoWants ?x4_NoWants ?x5_NoWants ?x6_NoWants ?x7_NoWants ?x8_NoWants ?x9_NoWants ?x10_NoWants ?x11_NoWants ?fn_NoWants ?i1_NoWants ?i2_NoWants ?i3_NoWants ?i4_NoWants ?i5_NoWants ?q_NoWants_DearError ?n_NoWants_DearError ?q_NoWants_NoNumber ?n_NoWants_NoNumber ?q_NoWants_NoBook ?n_NoWants_NoBook ?q_NoWants_NoTree ?n_NoWants_NoTree ?q_NoWants_TooMany ?n_NoWants_TooMany ?q_NoWants_NoCount ?n_NoWants_NoCount ?q_NoWants_NoUndo ?n_NoWants_NoUndo ?q_NoWants_NoTurn ?n_NoWants_NoTurn ?q_NoWants_NoRow ?n_NoWants_NoRow ?q_NoWants_Unknown ?n_NoWants_Unknown ?q_NoWants_NoTongue ?n_NoWants_NoTongue ?q_NoWants_NoWants ?q_NoWants_NoThing ?n_NoWants_NoThing ?q_NoWants_BadSign ?n_NoWants_BadSign ?q_NoWants_NoText ?n_NoWants_NoText ?q_NoWants_ValueError ?q_NoTurn_DearError ?n_NoTurn_DearError ?q_NoTurn_NoNumber ?n_NoTurn_NoNumber ?q_NoTurn_NoBook ?n_NoTurn_NoBook ?q_NoTurn_NoTree ?n_NoTurn_NoTree ?q_NoTurn_TooMany ?n_NoTurn_TooMany ?q_NoTurn_NoCount ?n_NoTurn_NoCount ?q_NoTurn_NoUndo ?n_NoTurn_NoUndo ?q_NoTurn_NoTurn ?q_NoTurn_NoRow ?n_NoTurn_NoRow ?q_NoTurn_Unknown ?n_NoTurn_Unknown ?q_NoTurn_NoTongue ?n_NoTurn_NoTongue ?q_NoTurn_NoWants ?n_NoTurn_NoWants ?q_NoTurn_NoThing ?n_NoTurn_NoThing ?q_NoTurn_BadSign ?n_NoTurn_BadSign ?q_NoTurn_NoText ?n_NoTurn_NoText ?q_NoTurn_ValueError ?b_NoWants ?a1 ?l1 ?c1 ?k1 ?a2 ?l2 ?c2 ?k2 ?a3 ?l3 ?c3 ?k3 ?a4 ?l4 ?c4 ?k4 ?a5 ?l5 ?c5 ?k5 ?a6 ?l6 ?c6 ?k6 ?a7 ?l7 ?c7 ?k7 ?a8 ?l8 ?c8 ?k8 ?a9 ?l9 ?c9 ?k9 ?a10 ?l10 ?c10 ?k10 ?a11 ?l11 ?c11 ?k11 ?a12 ?l12 ?c12 ?k12 ?a13 ?l13 ?c13 ?k13 ?a14 ?l14 ?c14 ?k14 ?a15 ?l15 ?c15 ?k15 ?a16 ?l16 ?c16 ?k16 ?a17 ?l17 ?c17 ?k17 ?a18 ?l18 ?c18 ?k18 ?a19 ?a20 ?a21 ?a22 ?a23 ?a24 ?a25 ?a26 ?a27 ?a28 ?a29 ?a30 ?a31 ?a32 ?a33 ?a34 ?a35 ?a36
      (case g_DearError => k_is); (case i_DearError => k_is); (case t_DearError => k_is); (case g_NoNumber => k_is); (case i_NoNumber => k_is); (case t_NoNumber => k_is); (case g_NoBook => k_is); (case i_NoBook => k_is)
      (case t_NoBook => k_is); (case g_NoTree => k_is); (case i_NoTree => k_is); (case t_NoTree => k_is); (case g_TooMany => k_is); (case i_TooMany => k_is); (case t_TooMany => k_is); (case g_NoCount => k_is)
      (case i_NoCount => k_is); (case t_NoCount => k_is); (case g_NoUndo => k_is); (case i_NoUndo => k_is); (case t_NoUndo => k_is); (case g_NoTurn => k_is); (case i_NoTurn => k_is); (case t_NoTurn => k_is)
      (case g_NoRow => k_is); (case i_NoRow => k_is); (case t_NoRow => k_is); (case g_Unknown => k_is); (case i_Unknown => k_is); (case t_Unknown => k_is); (case g_NoTongue => k_is); (case i_NoTongue => k_is)
      (case t_NoTongue => k_is); (case g_NoWants => k_is); (case i_NoWants => k_is); (case t_NoWants => k_is); (case g_NoThing => k_is); (case i_NoThing => k_is); (case t_NoThing => k_is); (case g_BadSign => k_is)
      (case i_BadSign => k_is); (case t_BadSign => k_is); (case g_NoText => k_is); (case i_NoText => k_is); (case t_NoText => k_is); (case b_DearError => k_is); (case x1_NoTurn => k_exc); (case x2_NoTurn => k_is)
      (case x3_NoTurn => k_is); (case x4_NoTurn => k_is); (case x5_NoTurn => k_is); (case x6_NoTurn => k_is); (case x7_NoTurn => k_is); (case x8_NoTurn => k_is); (case x9_NoTurn => k_is); (case x10_NoTurn => k_is)
      (case x11_NoTurn => k_is); (case d1 => k_is); (case d2 => k_is); (case d3 => k_is); (case xl_NoWants => k_is); (case sa_NoWants => k_is); (case x2_NoWants => k_is); (case x3_NoWants => k_is)
      (case x4_NoWants => k_is); (case x5_NoWants => k_is); (case x6_NoWants => k_is); (case x7_NoWants => k_is); (case x8_NoWants => k_is); (case x9_NoWants => k_is); (case x10_NoWants => k_is); (case x11_NoWants => k_is)
      (case fn_NoWants => k_is); (case i1_NoWants => k_is); (case i2_NoWants => k_is); (case i3_NoWants => k_is); (case i4_NoWants => k_is); (case i5_NoWants => k_is); (case q_NoWants_DearError => k_is); (case n_NoWants_DearError => rfl)
      (case q_NoWants_NoNumber => k_is); (case n_NoWants_NoNumber => rfl); (case q_NoWants_NoBook => k_is); (case n_NoWants_NoBook => rfl); (case q_NoWants_NoTree => k_is); (case n_NoWants_NoTree => rfl); (case q_NoWants_TooMany => k_is); (case n_NoWants_TooMany => rfl)
      (case q_NoWants_NoCount => k_is); (case n_NoWants_NoCount => rfl); (case q_NoWants_NoUndo => k_is); (case n_NoWants_NoUndo => rfl); (case q_NoWants_NoTurn => k_is); (case n_NoWants_NoTurn => rfl); (case q_NoWants_NoRow => k_is); (case n_NoWants_NoRow => rfl)
      (case q_NoWants_Unknown => k_is); (case n_NoWants_Unknown => rfl); (case q_NoWants_NoTongue => k_is); (case n_NoWants_NoTongue => rfl); (case q_NoWants_NoWants => k_is); (case q_NoWants_NoThing => k_is); (case n_NoWants_NoThing => rfl); (case q_NoWants_BadSign => k_is)
      (case n_NoWants_BadSign => rfl); (case q_NoWants_NoText => k_is); (case n_NoWants_NoText => rfl); (case q_NoWants_ValueError => k_is); (case q_NoTurn_DearError => k_is); (case n_NoTurn_DearError => rfl); (case q_NoTurn_NoNumber => k_is); (case n_NoTurn_NoNumber => rfl)
      (case q_NoTurn_NoBook => k_is); (case n_NoTurn_NoBook => rfl); (case q_NoTurn_NoTree => k_is); (case n_NoTurn_NoTree => rfl); (case q_NoTurn_TooMany => k_is); (case n_NoTurn_TooMany => rfl); (case q_NoTurn_NoCount => k_is); (case n_NoTurn_NoCount => rfl)
      (case q_NoTurn_NoUndo => k_is); (case n_NoTurn_NoUndo => rfl); (case q_NoTurn_NoTurn => k_is); (case q_NoTurn_NoRow => k_is); (case n_NoTurn_NoRow => rfl); (case q_NoTurn_Unknown => k_is); (case n_NoTurn_Unknown => rfl); (case q_NoTurn_NoTongue => k_is)
      (case n_NoTurn_NoTongue => rfl); (case q_NoTurn_NoWants => k_is); (case n_NoTurn_NoWants => rfl); (case q_NoTurn_NoThing => k_is); (case n_NoTurn_NoThing => rfl); (case q_NoTurn_BadSign => k_is); (case n_NoTurn_BadSign => rfl); (case q_NoTurn_NoText => k_is)
      (case n_NoTurn_NoText => rfl); (case q_NoTurn_ValueError => k_is); (case b_NoWants => k_is); (case a1 => k_is); (case l1 => k_is); (case c1 => k_is); (case k1 => k_is); (case a2 => k_is)
      (case l2 => k_is); (case c2 => k_is); (case k2 => k_is); (case a3 => k_is); (case l3 => k_is); (case c3 => k_is); (case k3 => k_is); (case a4 => k_is)
      (case l4 => k_is); (case c4 => k_is); (case k4 => k_is); (case a5 => k_is); (case l5 => k_is); (case c5 => k_is); (case k5 => k_is); (case a6 => k_is)
      (case l6 => k_is); (case c6 => k_is); (case k6 => k_is); (case a7 => k_is); (case l7 => k_is); (case c7 => k_is); (case k7 => k_is); (case a8 => k_is)
      (case l8 => k_is); (case c8 => k_is); (case k8 => k_is); (case a9 => k_is); (case l9 => k_is); (case c9 => k_is); (case k9 => k_is); (case a10 => k_is)
      (case l10 => k_is); (case c10 => k_is); (case k10 => k_is); (case a11 => k_is); (case l11 => k_is); (case c11 => k_is); (case k11 => k_is); (case a12 => k_is)
      (case l12 => k_is); (case c12 => k_is); (case k12 => k_is); (case a13 => k_is); (case l13 => k_is); (case c13 => k_is); (case k13 => k_is); (case a14 => k_is)
      (case l14 => k_is); (case c14 => k_is); (case k14 => k_is); (case a15 => k_is); (case l15 => k_is); (case c15 => k_is); (case k15 => k_is); (case a16 => k_is)
      (case l16 => k_is); (case c16 => k_is); (case k16 => k_is); (case a17 => k_is); (case l17 => k_is); (case c17 => k_is); (case k17 => k_is); (case a18 => k_is)
      (case l18 => k_is); (case c18 => k_is); (case k18 => k_is); (case a19 => k_is); (case a20 => k_is); (case a21 => k_is); (case a22 => k_is); (case a23 => k_is)
      (case a24 => k_is); (case a25 => k_is); (case a26 => k_is); (case a27 => k_is); (case a28 => k_is); (case a29 => k_is); (case a30 => k_is); (case a31 => k_is)
      (case a32 => k_is); (case a33 => k_is); (case a34 => k_is); (case a35 => k_is); (case a36 => k_is)
#print axioms PySem.Challenge.cw_dearsigns_k58_orders_of_things_holds

